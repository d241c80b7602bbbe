import PyProof.Rows.All
import PySem.Challenge.RW_gromatic_k56_whole_lettering_shown_both
import Wide.All
import OpenK.AllK
import Wide.FinOn
import HandS.ForMost
import HandS.Wide
import HandS.ForExc
import HandS.EndBits
import HandS.IsInst
import KE.Datum
import KE.KStateDown
import HandS.Defaults
import HandS.Head0
import HandS.Head1
import HandS.Head2
import HandS.HeadEnd
import HandS.HeadHook1
import HandS.HeadHook2
import HandS.HeadHook3
import HandS.HeadHook4
import HandS.Style
import HandS.TryOnly
import HandS.TupAny
import HandS.RevRange
import HandS.More
import HandS.ExcInit
import HandS.EndTab
import HandS.HeadWalk
import KE.SortKeyHeap
import KE.KDictSum
import KE.DatumOrd
import HandS.Deep
import KE.SortData
import HandS.Zip
import HandS.ExcOwn
import KE.KExcInit
import KE.KExcIs
import HandS.ExcField
import HandS.DictComp
import HandS.Text
import HandS.FStr
import HandS.SlotsOwn
import OpenK.KOps
import KE.KFmtOwn
import PyProof.CallStr
import HandS.RaiseMore
import HandS.MakeKwOnly
import HandS.CallSlots
import HandS.DictEq
import HandS.DeepEq
import HandS.SetTxt0
import HandS.SetFor
import HandS.SetKeys
import HandS.SortKw
import KE.KDictWalk
import PyProof.DictMoreH
import KE.DatumMore
import KE.KUnpackStar
import HandS.Flow
import PyProof.ListNew
import HandS.Finally
import KE.KDictList
import KE.KEqDict
import PyProof.DictWalks
import PyProof.MinMaxWalk
import PyProof.WalkInts
import HandS.OwnEq
import HandS.MapJoin
import HandS.Replace
import HandS.ListEq
import PyProof.NeKinds
set_option Elab.async false
set_option linter.all false
set_option maxRecDepth 100000
set_option maxHeartbeats 4000000
/-! L3: tuples by content; lists, dicts and instances in an abstract heap Mp. Judgements in weakest form, one rule a construct. -/
namespace G3
open PySem L2

/-- a value: a tuple is its items -/
inductive VV where
  | non | bl (b : Bool) | int (i : Int) | str (x : Str) | ref (a : Addr) | ty (n : String) | tup (xs : List VV)
  /-- a list that stays as it is -/
  | seq (xs : List VV)
  /-- a tuple that the run has laid -/
  | ftp (xs : List VV)

/-- a list that stays what it is -/
def SqR (K : PySem.W.Frag) (H : Hp) (a : Addr) (xs : List V) : Prop := (∃ o, H a = some (.frz o (.lst xs))) ∨
  ∃ (o : Obj) (its : Array Value) (n : Nat), K.lookup a = some o ∧ o.cls = .type "list" ∧ o.dict = none ∧ o.data = .seq its n ∧ its.size ≤ sizeLine ∧ Vals xs its.toList
theorem SqR.sql {K : PySem.W.Frag} {H : Hp} {a : Addr} {xs : List V} (h : SqR K H a xs) : SqL K H a xs := by
  rcases h with ⟨o, h⟩ | h
  · exact .inl (.inr ⟨o, h⟩)
  · exact .inr h

mutual
inductive Rv (K : PySem.W.Frag) (H : Hp) : V → VV → Prop
  | non : Rv K H .non .non
  | bl (b : Bool) : Rv K H (.bl b) (.bl b)
  | int (i : Int) : Rv K H (.int i) (.int i)
  | str (x : Str) : Rv K H (.str x) (.str x)
  | ref (a : Addr) : Rv K H (.ref a) (.ref a)
  | ty (n : String) : Rv K H (.ty n) (.ty n)
  | tup {p : Addr} {vs : List V} {ws : List VV} : SqT K H p vs → Rvs K H vs ws → Rv K H (.ref p) (.tup ws)
  | seq {p : Addr} {vs : List V} {ws : List VV} : SqR K H p vs → Rvs K H vs ws → Rv K H (.ref p) (.seq ws)
  | ftp {p : Addr} {vs : List V} {ws : List VV} : H p = some (.tup vs) → Rvs K H vs ws → Rv K H (.ref p) (.ftp ws)
inductive Rvs (K : PySem.W.Frag) (H : Hp) : List V → List VV → Prop
  | nil : Rvs K H [] []
  | cons {v : V} {vs : List V} {w : VV} {ws : List VV} : Rv K H v w → Rvs K H vs ws → Rvs K H (v :: vs) (w :: ws)
end

theorem upd_nn {H : Hp} {p b : Addr} {o : HO} (h : H b ≠ none) : upd H p o b ≠ none := by
  unfold upd; split
  · intro z; cases z
  · exact h
/-- what is locked for a while only: dicts -/
def Lkd : HO → Bool
  | .dK _ => true
  | .dT _ => true
  | _ => false
/-- tuples and locked things stay -/
structure TM (H H' : Hp) : Prop where
  tup : ∀ b xs, H b = some (.tup xs) → H' b = some (.tup xs)
  frz : ∀ b o u, Lkd u = false → H b = some (.frz o u) → H' b = some (.frz o u)
theorem TM.refl {H : Hp} : TM H H := ⟨fun _ _ h => h, fun _ _ _ _ h => h⟩
theorem TM.trans {H H1 H2 : Hp} (a : TM H H1) (b : TM H1 H2) : TM H H2 := ⟨fun c xs h => b.tup c xs (a.tup c xs h), fun c o u k h => b.frz c o u k (a.frz c o u k h)⟩
theorem TM.fresh {H : Hp} {p : Addr} {o : HO} (h : H p = none) : TM H (upd H p o) :=
  ⟨fun c xs e => by rw [upd_ne (ne_of_none e h)]; exact e, fun c ob u _ e => by rw [upd_ne (ne_of_none e h)]; exact e⟩
theorem TM.lst {H : Hp} {p : Addr} {xs : List V} {o : HO} (h : H p = some (.lst xs)) : TM H (upd H p o) :=
  ⟨fun c ys e => by rw [upd_ne (ne_of e h (by intro z; cases z))]; exact e, fun c ob u _ e => by rw [upd_ne (ne_of e h (by intro z; cases z))]; exact e⟩
theorem SqT.mono {K : PySem.W.Frag} {H H' : Hp} {p : Addr} {vs : List V} (t : TM H H') (h : SqT K H p vs) : SqT K H' p vs := by
  rcases h with (h | ⟨o, h⟩) | h
  · exact .inl (.inl (t.tup p vs h))
  · exact .inl (.inr ⟨o, t.frz p o _ rfl h⟩)
  · exact .inr h
theorem SqR.mono {K : PySem.W.Frag} {H H' : Hp} {a : Addr} {xs : List V} (t : TM H H') (h : SqR K H a xs) : SqR K H' a xs := by
  rcases h with ⟨o, h⟩ | h
  · exact .inl ⟨o, t.frz _ _ _ rfl h⟩
  · exact .inr h
mutual
theorem Rv.mono {K : PySem.W.Frag} {H H' : Hp} (t : TM H H') : ∀ (w : VV) (v : V), Rv K H v w → Rv K H' v w
  | .non, _, h => by cases h; exact .non
  | .bl b, _, h => by cases h; exact .bl b
  | .int b, _, h => by cases h; exact .int b
  | .str b, _, h => by cases h; exact .str b
  | .ref b, _, h => by cases h; exact .ref b
  | .ty b, _, h => by cases h; exact .ty b
  | .tup ws, _, h => by
    cases h with
    | tup hs hr => exact .tup (SqT.mono t hs) (Rvs.mono t ws _ hr)
  | .seq ws, _, h => by
    cases h with
    | seq hs hr => exact .seq (SqR.mono t hs) (Rvs.mono t ws _ hr)
  | .ftp ws, _, h => by
    cases h with
    | ftp hs hr => exact .ftp (t.tup _ _ hs) (Rvs.mono t ws _ hr)
theorem Rvs.mono {K : PySem.W.Frag} {H H' : Hp} (t : TM H H') : ∀ (ws : List VV) (vs : List V), Rvs K H vs ws → Rvs K H' vs ws
  | [], _, h => by cases h; exact .nil
  | w :: ws, _, h => by
    cases h with
    | cons h1 h2 => exact .cons (Rv.mono t w _ h1) (Rvs.mono t ws _ h2)
end
section
variable {K : PySem.W.Frag} {H H' : Hp}
theorem Rvs.length {vs : List V} : ∀ {ws : List VV}, Rvs K H vs ws → vs.length = ws.length := by
  induction vs with
  | nil => intro ws h; cases h; rfl
  | cons v vs ih => intro ws h; cases h with | cons _ h2 => simp [ih h2]
theorem Rvs.get {vs : List V} : ∀ {ws : List VV} {i : Nat} {w : VV}, Rvs K H vs ws → ws[i]? = some w → ∃ v, vs[i]? = some v ∧ Rv K H v w := by
  induction vs with
  | nil => intro ws i w h e; cases h; simp at e
  | cons v vs ih =>
    intro ws i w h e
    cases h with
    | cons h1 h2 =>
      cases i with
      | zero => simp at e; subst e; exact ⟨_, rfl, h1⟩
      | succ i =>
        obtain ⟨u, a, b⟩ := ih h2 (by simpa using e)
        exact ⟨u, by simpa using a, b⟩
theorem Rvs.get' {vs : List V} : ∀ {ws : List VV} {i : Nat} {v : V}, Rvs K H vs ws → vs[i]? = some v → ∃ w, ws[i]? = some w ∧ Rv K H v w := by
  induction vs with
  | nil => intro ws i w h e; simp at e
  | cons v vs ih =>
    intro ws i w h e
    cases h with
    | cons h1 h2 =>
      cases i with
      | zero => simp at e; subst e; exact ⟨_, rfl, h1⟩
      | succ i =>
        obtain ⟨u, a, b⟩ := ih h2 (by simpa using e)
        exact ⟨u, by simpa using a, b⟩
theorem Rvs.append {xs ys : List V} : ∀ {us ws : List VV}, Rvs K H xs us → Rvs K H ys ws → Rvs K H (xs ++ ys) (us ++ ws) := by
  induction xs with
  | nil => intro us ws h k; cases h; exact k
  | cons x xs ih => intro us ws h k; cases h with | cons h1 h2 => exact .cons h1 (ih h2 k)
theorem Rvs.take {xs : List V} : ∀ {us : List VV} (n : Nat), Rvs K H xs us → Rvs K H (xs.take n) (us.take n) := by
  induction xs with
  | nil => intro us n h; cases h; simp; exact .nil
  | cons x xs ih =>
    intro us n h
    cases h with
    | cons h1 h2 =>
      cases n with
      | zero => exact .nil
      | succ n => exact .cons h1 (ih n h2)
theorem Rvs.drop {xs : List V} : ∀ {us : List VV} (n : Nat), Rvs K H xs us → Rvs K H (xs.drop n) (us.drop n) := by
  induction xs with
  | nil => intro us n h; cases h; simp; exact .nil
  | cons x xs ih =>
    intro us n h
    cases h with
    | cons h1 h2 =>
      cases n with
      | zero => exact .cons h1 h2
      | succ n => exact ih n h2
theorem Rvs.set {xs : List V} : ∀ {us : List VV} {v : V} {w : VV} (n : Nat), Rv K H v w → Rvs K H xs us → Rvs K H (xs.set n v) (us.set n w) := by
  induction xs with
  | nil => intro us v w n r h; cases h; exact .nil
  | cons x xs ih =>
    intro us v w n r h
    cases h with
    | cons h1 h2 =>
      cases n with
      | zero => exact .cons r h2
      | succ n => exact .cons h1 (ih n r h2)
theorem Rvs.eraseIdx {xs : List V} : ∀ {us : List VV} (n : Nat), Rvs K H xs us → Rvs K H (xs.eraseIdx n) (us.eraseIdx n) := by
  induction xs with
  | nil => intro us n h; cases h; exact .nil
  | cons x xs ih =>
    intro us n h
    cases h with
    | cons h1 h2 =>
      cases n with
      | zero => exact h2
      | succ n => exact .cons h1 (ih n h2)
theorem Rvs.ints {ns : List Int} : ∀ {vs : List V}, Rvs K H vs (ns.map VV.int) → vs = ns.map V.int := by
  induction ns with
  | nil => intro vs h; cases h; rfl
  | cons n ns ih => intro vs h; cases h with | cons h1 h2 => cases h1; rw [ih h2]; rfl
theorem Rvs.bls {ns : List Bool} : ∀ {vs : List V}, Rvs K H vs (ns.map VV.bl) → vs = ns.map V.bl := by
  induction ns with
  | nil => intro vs h; cases h; rfl
  | cons n ns ih => intro vs h; cases h with | cons h1 h2 => cases h1; rw [ih h2]; rfl
theorem Rvs.of_ints {ns : List Int} : Rvs K H (ns.map V.int) (ns.map VV.int) := by
  induction ns with
  | nil => exact .nil
  | cons n ns ih => exact .cons (.int n) ih
end

/-! ### the abstract heap of mutable things -/
inductive MO where
  /-- a list of the walk's own -/
  | lst (xs : List VV)
  | dK (kvs : List (Key × VV)) | dT (kvs : List (List Key × VV))
  | ins (C : Addr) (fs : List (Str × VV))
  /-- the law's bag of draws, its state unsaid -/
  | bag
  /-- an exception's dict behind the raise; an exception in the making, its dict in the making -/
  | xd (fs : List (Str × VV)) | xo (C : Addr) (d : Option Addr) (Hf : Hp) | xf (fs : List (Str × VV))
  /-- a thing that is to stay as it is -/
  | fix (o : HO)
  /-- a def's table of code objects, all of this name; what it holds is hidden -/
  | tab (q : Str)
  /-- a dict while a loop walks it -/
  | lk (o : Obj) (xs : List (Key × V)) (kvs : List (Key × VV)) | lkT (o : Obj) (xs : List (List Key × V)) (kvs : List (List Key × VV))
abbrev Mp := Addr → Option MO
def updM (M : Mp) (a : Addr) (o : MO) : Mp := fun b => if b = a then some o else M b
theorem updM_same {M : Mp} {a : Addr} {o : MO} : updM M a o a = some o := by unfold updM; rw [if_pos rfl]
theorem updM_ne {M : Mp} {a b : Addr} {o : MO} (h : b ≠ a) : updM M a o b = M b := by unfold updM; rw [if_neg h]
theorem updM_updM {M : Mp} {a : Addr} {o u : MO} : updM (updM M a o) a u = updM M a u := by
  funext b; unfold updM; split <;> rfl
theorem updM_comm {M : Mp} {a b : Addr} {o u : MO} (h : a ≠ b) : updM (updM M a o) b u = updM (updM M b u) a o := by
  funext c; unfold updM
  by_cases hb : c = b
  · subst hb; rw [if_pos rfl, if_neg (Ne.symm h), if_pos rfl]
  · rw [if_neg hb]
    by_cases ha : c = a
    · rw [if_pos ha, if_pos ha]
    · rw [if_neg ha, if_neg ha, if_neg hb]
theorem updM_id {M : Mp} {a : Addr} {o : MO} (h : M a = some o) : updM M a o = M := by
  funext c; unfold updM; split
  · rename_i e; rw [e, h]
  · rfl
theorem neM {M : Mp} {a b : Addr} {o : MO} (h : M a = some o) (h' : M b = none) : a ≠ b := by
  intro e; subst e; rw [h] at h'; cases h'
theorem neM2 {M : Mp} {a b : Addr} {o u : MO} (h : M a = some o) (h' : M b = some u) (d : o ≠ u) : a ≠ b := by
  intro e; subst e; rw [h] at h'; exact d (Option.some.inj h')

inductive Rkv (K : PySem.W.Frag) (H : Hp) {κ : Type} : List (κ × V) → List (κ × VV) → Prop
  | nil : Rkv K H [] []
  | cons {k : κ} {v : V} {w : VV} {xs : List (κ × V)} {ys : List (κ × VV)} : Rv K H v w → Rkv K H xs ys → Rkv K H ((k, v) :: xs) ((k, w) :: ys)
theorem Rkv.mono {K : PySem.W.Frag} {H H' : Hp} (t : TM H H') {κ : Type} {xs : List (κ × V)} {ys : List (κ × VV)} (h : Rkv K H xs ys) : Rkv K H' xs ys := by
  induction h with
  | nil => exact .nil
  | cons a _ ih => exact .cons (Rv.mono t _ _ a) ih
/-- what of a bag's state is kept -/
structure BagOk (i1 i2 i3 i4 : Int) (cells : List Int) : Prop where
  p0 : 0 ≤ i1
  sd0 : 0 ≤ i3
  sd1 : i3 < 2147483629
  len : cells.length ≤ 63
/-- a bag at b: its list of numbers stands hidden -/
def BagAt (M : Mp) (H : Hp) (b : Addr) : Prop := ∃ c i1 i2 i3 i4 cells, H b = some (.lst [.ref c, .int i1, .int i2, .int i3, .int i4]) ∧ H c = some (.lst (cells.map V.int)) ∧ M c = none ∧ BagOk i1 i2 i3 i4 cells
/-- a table at a: each code object that it tells stands hidden -/
def TabAt (M : Mp) (H : Hp) (a : Addr) (q : Str) : Prop := ∃ ps : Array Value, H a = some (.tbl ps) ∧ PySem.TriplesOk ps.toList ∧ ∀ (pos : Pos) (cv : Value), PySem.codeAmong pos ps.toList = some cv → ∃ c, cv = .ref c ∧ H c = some (LamX.CodeO c q) ∧ M c = none
def Ro (K : PySem.W.Frag) (M : Mp) (H : Hp) (a : Addr) : MO → Prop
  | .lst ws => ∃ vs, H a = some (.lst vs) ∧ Rvs K H vs ws
  | .dK kvs => ∃ xs, H a = some (.dK xs) ∧ Rkv K H xs kvs
  | .dT kvs => ∃ xs, H a = some (.dT xs) ∧ Rkv K H xs kvs
  | .ins C fs => ∃ dx gs, H a = some (.ins C dx gs) ∧ Rkv K H gs fs
  | .bag => BagAt M H a ∧ ∀ b, M b = some .bag → b = a
  | .xd fs => ∃ gs, H a = some (.xd gs) ∧ Rkv K H gs fs
  | .xo C d Hf => H a = some (exo a C d) ∧ ∀ b, Hf b ≠ none → H b ≠ none
  | .xf fs => ∃ gs, H a = some (exd a gs) ∧ Rkv K H gs fs
  | .fix o => H a = some o
  | .tab q => TabAt M H a q
  | .lk o xs kvs => H a = some (.frz o (.dK xs)) ∧ Rkv K H xs kvs
  | .lkT o xs kvs => H a = some (.frz o (.dT xs)) ∧ Rkv K H xs kvs
def SimM (K : PySem.W.Frag) (M : Mp) (H : Hp) : Prop := ∀ a o, M a = some o → Ro K M H a o
section
variable {K : PySem.W.Frag} {H H' : Hp} {M M' : Mp} {a p : Addr} {o : MO}
theorem Ro.there (h : Ro K M H a o) : ∃ u, H a = some u := by
  cases o with
  | lst ws => obtain ⟨_, e, _⟩ := h; exact ⟨_, e⟩
  | dK ws => obtain ⟨_, e, _⟩ := h; exact ⟨_, e⟩
  | dT ws => obtain ⟨_, e, _⟩ := h; exact ⟨_, e⟩
  | ins C ws => obtain ⟨_, _, e, _⟩ := h; exact ⟨_, e⟩
  | bag => obtain ⟨⟨_, _, _, _, _, _, e, _⟩, _⟩ := h; exact ⟨_, e⟩
  | xd fs => obtain ⟨_, e, _⟩ := h; exact ⟨_, e⟩
  | xo C d Hf => exact ⟨_, h.1⟩
  | xf fs => obtain ⟨_, e, _⟩ := h; exact ⟨_, e⟩
  | fix o => exact ⟨_, h⟩
  | tab q => obtain ⟨_, e, _⟩ := h; exact ⟨_, e⟩
  | lk _ _ ws => exact ⟨_, h.1⟩
  | lkT _ _ ws => exact ⟨_, h.1⟩
theorem SimM.no (s : SimM K M H) (h : H p = none) : M p = none := by
  cases q : M p with
  | none => rfl
  | some o => obtain ⟨u, e⟩ := (s p o q).there; rw [h] at e; cases e
theorem Ro.stay (t : TM H H') (w : ∀ b, H b ≠ none → H' b ≠ none) (e : ∀ u, H a = some u → H' a = some u) (n : ∀ b u, M b = none → H b = some u → H' b = some u ∧ M' b = none) (k : ∀ b, M' b = some .bag → M b = some .bag) : ∀ {o : MO}, Ro K M H a o → Ro K M' H' a o
  | .lst ws, h => let ⟨vs, h1, h2⟩ := h; ⟨vs, e _ h1, Rvs.mono t _ _ h2⟩
  | .dK ws, h => let ⟨vs, h1, h2⟩ := h; ⟨vs, e _ h1, h2.mono t⟩
  | .dT ws, h => let ⟨vs, h1, h2⟩ := h; ⟨vs, e _ h1, h2.mono t⟩
  | .ins C ws, h => let ⟨dx, vs, h1, h2⟩ := h; ⟨dx, vs, e _ h1, h2.mono t⟩
  | .bag, h => let ⟨⟨c, i1, i2, i3, i4, cs, h1, h2, h3, h4⟩, hu⟩ := h; ⟨⟨c, i1, i2, i3, i4, cs, e _ h1, (n _ _ h3 h2).1, (n _ _ h3 h2).2, h4⟩, fun b hb => hu b (k b hb)⟩
  | .xd fs, h => let ⟨vs, h1, h2⟩ := h; ⟨vs, e _ h1, h2.mono t⟩
  | .xo _ _ _, h => ⟨e _ h.1, fun b hb => w b (h.2 b hb)⟩
  | .xf fs, h => let ⟨vs, h1, h2⟩ := h; ⟨vs, e _ h1, h2.mono t⟩
  | .fix _, h => e _ h
  | .tab _, h => let ⟨ps, h1, h2, h3⟩ := h; ⟨ps, e _ h1, h2, fun pos cv hc => let ⟨c, e1, e2, e3⟩ := h3 pos cv hc; ⟨c, e1, (n _ _ e3 e2).1, (n _ _ e3 e2).2⟩⟩
  | .lk _ _ ws, h => ⟨e _ h.1, h.2.mono t⟩
  | .lkT _ _ ws, h => ⟨e _ h.1, h.2.mono t⟩
theorem SimM.alloc {ho : HO} (s : SimM K M H) (h : H p = none) : SimM K M (upd H p ho) := fun a o e =>
  Ro.stay (TM.fresh h) (fun b hb => upd_nn hb) (fun u q => by rw [upd_ne (ne_of_none q h)]; exact q) (fun b u hb q => ⟨by rw [upd_ne (ne_of_none q h)]; exact q, hb⟩) (fun _ h => h) (s a o e)
/-- what is written at p alone -/
theorem SimM.put {ho : HO} (s : SimM K M H) (t : TM H (upd H p ho)) (hp : H p = none ∨ ∃ u, M p = some u) (nb : o ≠ .bag) (n : Ro K (updM M p o) (upd H p ho) p o) : SimM K (updM M p o) (upd H p ho) := fun a u e => by
  by_cases ha : a = p
  · subst ha; rw [updM_same] at e; cases e; exact n
  · rw [updM_ne ha] at e
    refine Ro.stay t (fun b hb => upd_nn hb) (fun z q => by rw [upd_ne ha]; exact q) (fun b u hb q => ?_) (fun b hb => ?_) (s a u e)
    · have : b ≠ p := by
        rintro rfl
        rcases hp with hp | ⟨u, hp⟩
        · rw [hp] at q; cases q
        · rw [hp] at hb; cases hb
      exact ⟨by rw [upd_ne this]; exact q, by rw [updM_ne this]; exact hb⟩
    · by_cases hbp : b = p
      · subst hbp; rw [updM_same] at hb; exact absurd (Option.some.inj hb) nb
      · rw [updM_ne hbp] at hb; exact hb
theorem SimM.putL {vs : List V} {ws : List VV} (s : SimM K M H) (t : TM H (upd H p (.lst vs))) (hp : H p = none ∨ ∃ u, M p = some u) (r : Rvs K H vs ws) : SimM K (updM M p (.lst ws)) (upd H p (.lst vs)) :=
  SimM.put s t hp (by intro z; cases z) (o := .lst ws) ⟨vs, upd_same, Rvs.mono t _ _ r⟩
def LeM (M M' : Mp) : Prop := ∀ a o, M a = some o → M' a = some o
theorem LeM.refl : LeM M M := fun _ _ h => h
theorem LeM.trans {M1 : Mp} (h : LeM M M1) (k : LeM M1 M') : LeM M M' := fun a o e => k a o (h a o e)
theorem LeM.put (h : LeM M M') (n : M p = none) : LeM M (updM M' p o) := fun a u e => by
  rw [updM_ne (neM e n)]; exact h a u e
/-- what is no longer asked for is let go -/
theorem SimM.sub (s : SimM K M' H) (l : LeM M M') : SimM K M H := fun a o e =>
  Ro.stay (M := M') TM.refl (fun _ h => h) (fun _ h => h) (fun b u hb q => ⟨q, by
    cases z : M b with
    | none => rfl
    | some o => rw [l b o z] at hb; cases hb⟩) (fun b hb => l b _ hb) (s a o (l a o e))
/-- into a bag -/
theorem SimM.opn {b : Addr} (s : SimM K M H) (h : M b = some .bag) : ∃ c i1 i2 i3 i4 cells, BagOk i1 i2 i3 i4 cells ∧ M c = none ∧ c ≠ b ∧
    SimM K (updM (updM M b (.lst [.ref c, .int i1, .int i2, .int i3, .int i4])) c (.lst (cells.map VV.int))) H := by
  obtain ⟨⟨c, i1, i2, i3, i4, cells, h1, h2, h3, h4⟩, hu⟩ := s b _ h
  have hcb : c ≠ b := by rintro rfl; rw [h] at h3; cases h3
  refine ⟨c, i1, i2, i3, i4, cells, h4, h3, hcb, fun a o e => ?_⟩
  by_cases hac : a = c
  · subst hac; rw [updM_same] at e; cases e
    exact ⟨_, h2, Rvs.of_ints⟩
  · rw [updM_ne hac] at e
    by_cases hab : a = b
    · subst hab; rw [updM_same] at e; cases e
      exact ⟨_, h1, .cons (.ref _) (.cons (.int _) (.cons (.int _) (.cons (.int _) (.cons (.int _) .nil))))⟩
    · rw [updM_ne hab] at e
      have nb : o ≠ .bag := by rintro rfl; exact hab (hu a e)
      have z := s a o e
      cases o with
      | bag => exact absurd rfl nb
      | tab q2 =>
        obtain ⟨ps, t1, t2, t3⟩ := z
        refine ⟨ps, t1, t2, fun pos cv hcv => ?_⟩
        obtain ⟨d, u1, u2, u3⟩ := t3 pos cv hcv
        refine ⟨d, u1, u2, ?_⟩
        rw [updM_ne (fun z => by subst z; rw [h2] at u2; unfold LamX.CodeO at u2; cases u2), updM_ne (fun z => by subst z; rw [h] at u3; cases u3)]
        exact u3
      | _ => exact z
/-- out of it -/
theorem SimM.cls {b c : Addr} {i1 i2 i3 i4 : Int} {cells : List Int} (s : SimM K M' H) (h1 : M' b = some (.lst [.ref c, .int i1, .int i2, .int i3, .int i4])) (h2 : M' c = some (.lst (cells.map VV.int))) (hb : BagOk i1 i2 i3 i4 cells) (nb : ∀ a, M' a ≠ some .bag)
    (hM : M b = some .bag) (hc : M c = none) (l : ∀ a o, M a = some o → a ≠ b → M' a = some o) : SimM K M H := fun a o e => by
  by_cases ha : a = b
  · subst ha; rw [hM] at e; cases e
    obtain ⟨vs, e1, r1⟩ := s a _ h1
    obtain ⟨us, e2, r2⟩ := s c _ h2
    have r2' := Rvs.ints r2
    subst r2'
    cases r1 with | cons x1 r1 => cases r1 with | cons x2 r1 => cases r1 with | cons x3 r1 => cases r1 with | cons x4 r1 => cases r1 with | cons x5 r1 =>
    cases r1; cases x1; cases x2; cases x3; cases x4; cases x5
    refine ⟨⟨c, i1, i2, i3, i4, cells, e1, e2, hc, hb⟩, fun b' q => ?_⟩
    by_cases hb' : b' = a
    · exact hb'
    · exact absurd (l b' _ q hb') (nb b')
  · have q := l a o e ha
    have z := s a o q
    have nbo : o ≠ .bag := by rintro rfl; exact nb a q
    cases o with
    | bag => exact absurd rfl nbo
    | tab q2 =>
      obtain ⟨ps, t1, t2, t3⟩ := z
      refine ⟨ps, t1, t2, fun pos cv hcv => ?_⟩
      obtain ⟨d, u1, u2, u3⟩ := t3 pos cv hcv
      refine ⟨d, u1, u2, ?_⟩
      cases hm : M d with
      | none => rfl
      | some o2 =>
        by_cases hd : d = b
        · subst hd; rw [h1] at u3; cases u3
        · rw [l d o2 hm hd] at u3; cases u3
    | _ => exact z
end
end G3

set_option Elab.async false
set_option linter.all false
set_option maxRecDepth 100000
set_option maxHeartbeats 4000000
/-! L3: judgements in weakest form and the rules of expressions -/
namespace G3
open PySem PySem.Spec L2

section
variable (X : Cx)
def wE (e : Expr) : TE := fun σ H Q => ∀ pins s, Inv X pins σ H s → wpAny (model X.prog X.w) X.A (eval e X.env) (EP X pins σ Q) X.xe s
def wT (e : Expr) : TT := fun σ H Q => ∀ pins s, Inv X pins σ H s → wpAny (model X.prog X.w) X.A (isTrue e X.env (eval e X.env)) (TP X pins σ Q) X.xe s
def wW (e : Expr) : TT := fun σ H Q => ∀ whole pins s, Inv X pins σ H s → wpAny (model X.prog X.w) X.A (isTrue e X.env whole) (TP X pins σ Q) X.xe s
def wA (es : List Expr) : TA := fun σ H Q => ∀ pos pins s, Inv X pins σ H s → wpAny (model X.prog X.w) X.A (spliced (backTo pos (starEach es X.env))) (AP X pins σ Q) X.xe s
def wS (st : Stmt) : TS := fun D σ H => ∀ pins s, Inv X pins σ H s → wpAny (model X.prog X.w) X.A (exec st X.env) (SP X pins D) X.xe s
def wSs (st : List Stmt) : TS := fun D σ H => ∀ pins s, Inv X pins σ H s → wpAny (model X.prog X.w) X.A (execs st X.env) (SP X pins D) X.xe s
def wG (tg : Expr) : TG := fun v σ H Q => ∀ pins s u, Inv X pins σ H s → RelV v u → wpAny (model X.prog X.w) X.A (assign tg X.env u) (fun _ s' => ∃ σ' H', Inv X pins σ' H' s' ∧ Q σ' H') X.xe s
def wGs (ts : List Expr) : TGs := fun vs σ H Q => ∀ pins s us, Inv X pins σ H s → Vals vs us → wpAny (model X.prog X.w) X.A (assignInOrder ((assignEach ts X.env).map (·.2)) us) (fun _ s' => ∃ σ' H', Inv X pins σ' H' s' ∧ Q σ' H') X.xe s
def wOp (f : Value → Value → Sem Value) : R2 := fun x y H Q => ∀ pins s σ v u, Inv X pins σ H s → RelV x v → RelV y u → wpAny (model X.prog X.w) X.A (f v u) (EP X pins σ Q) X.xe s
def wUn (f : Value → Sem Value) : V → Hp → VK → Prop := fun x H Q => ∀ pins s σ v, Inv X pins σ H s → RelV x v → wpAny (model X.prog X.w) X.A (f v) (EP X pins σ Q) X.xe s
def wCall (f : Value) : List V → Hp → VK → Prop := fun xs H Q => ∀ pins s σ us, Inv X pins σ H s → Vals xs us → wpAny (model X.prog X.w) X.A (call f us) (EP X pins σ Q) X.xe s
def wIx : R2 := fun x y H Q => ∀ value slice pins s σ v u, Inv X pins σ H s → RelV x v → RelV y u → subscripted slice false v u = operate [v, u] (getItem v u) → wpAny (model X.prog X.w) X.A (PyProof.Rows.subscriptTail value slice v u) (EP X pins σ Q) X.xe s
def wMt (id : String) : V → List V → Hp → VK → Prop := fun x xs H Q => ∀ pins s σ v us, Inv X pins σ H s → RelV x v → Vals xs us → wpAny (model X.prog X.w) X.A (call (.builtin id) (v :: us)) (EP X pins σ Q) X.xe s
def wSet : TSet := fun o i v H Q => ∀ pins s σ ov iv u, Inv X pins σ H s → RelV o ov → RelV i iv → RelV v u → wpAny (model X.prog X.w) X.A (setItem ov iv u) (fun _ s' => ∃ H', Inv X pins σ H' s' ∧ Q H') X.xe s
end
section
variable {X : Cx}
theorem wE.pe {e} : PE X e (wE X e) := ⟨fun pins s σ H Q I h => h pins s I⟩
theorem wT.pt {e} : PT X e (wT X e) := ⟨fun pins s σ H Q I h => h pins s I⟩
theorem wW.pw {e} : PW X e (wW X e) := ⟨fun wh pins s σ H Q I h => h wh pins s I⟩
theorem wA.pa {e} : PA X e (wA X e) := ⟨fun p pins s σ H Q I h => h p pins s I⟩
theorem wS.ps {e} : PS X e (wS X e) := ⟨fun pins s σ H D I h => h pins s I⟩
theorem wSs.pss {e} : PSs X e (wSs X e) := ⟨fun pins s σ H D I h => h pins s I⟩
theorem wG.pg {e} : PG X e (wG X e) := ⟨fun pins s σ H v u Q I r h => h pins s u I r⟩
theorem wGs.pgs {e} : PGs X e (wGs X e) := ⟨fun pins s σ H vs us Q I r h => h pins s us I r⟩
theorem wOp.op {f} : OpR X f (wOp X f) := fun pins s σ H x y v u Q I r1 r2 h => h pins s σ v u I r1 r2
theorem wUn.un {f} : UnR X f (wUn X f) := fun pins s σ H x v Q I r1 h => h pins s σ v I r1
theorem wCall.cr {f} : CallR X f (wCall X f) := fun pins s σ H xs us Q I r1 h => h pins s σ us I r1
theorem wIx.ix : IxR X (wIx X) := fun va sl pins s σ H x y v u Q I r1 r2 h e => h va sl pins s σ v u I r1 r2 e
theorem wMt.mt {id} : MtR X id (wMt X id) := fun pins s σ H x xs v us Q I r1 r2 h => h pins s σ v us I r1 r2
theorem wSet.ps : PSet X (wSet X) := fun pins s σ H o i v ov iv u Q I r1 r2 r3 h => h pins s σ ov iv u I r1 r2 r3

theorem wE.of {e t σ H Q} (p : PE X e t) (h : t σ H Q) : wE X e σ H Q := fun pins s I => p.run pins s σ H Q I h
theorem wT.of {e t σ H Q} (p : PT X e t) (h : t σ H Q) : wT X e σ H Q := fun pins s I => p.run pins s σ H Q I h
theorem wW.of {e t σ H Q} (p : PW X e t) (h : t σ H Q) : wW X e σ H Q := fun wh pins s I => p.run wh pins s σ H Q I h
theorem wA.of {e t σ H Q} (p : PA X e t) (h : t σ H Q) : wA X e σ H Q := fun po pins s I => p.run po pins s σ H Q I h
theorem wS.of {e t σ H D} (p : PS X e t) (h : t D σ H) : wS X e D σ H := fun pins s I => p.run pins s σ H D I h
theorem wSs.of {e t σ H D} (p : PSs X e t) (h : t D σ H) : wSs X e D σ H := fun pins s I => p.run pins s σ H D I h
theorem wG.of {e t v σ H Q} (p : PG X e t) (h : t v σ H Q) : wG X e v σ H Q := fun pins s u I r => p.run pins s σ H v u Q I r h
theorem wGs.of {e t v σ H Q} (p : PGs X e t) (h : t v σ H Q) : wGs X e v σ H Q := fun pins s u I r => p.run pins s σ H v u Q I r h
theorem wOp.of {f} {r : R2} {x y H Q} (p : OpR X f r) (h : r x y H Q) : wOp X f x y H Q := fun pins s σ v u I r1 r2 => p pins s σ H x y v u Q I r1 r2 h
theorem wUn.of {f} {r : V → Hp → VK → Prop} {x H Q} (p : UnR X f r) (h : r x H Q) : wUn X f x H Q := fun pins s σ v I r1 => p pins s σ H x v Q I r1 h
theorem wCall.of {f} {r : List V → Hp → VK → Prop} {xs H Q} (p : CallR X f r) (h : r xs H Q) : wCall X f xs H Q := fun pins s σ us I r1 => p pins s σ H xs us Q I r1 h
theorem wIx.of {r : R2} {x y H Q} (p : IxR X r) (h : r x y H Q) : wIx X x y H Q := fun va sl pins s σ v u I r1 r2 e => p va sl pins s σ H x y v u Q I r1 r2 h e
theorem wMt.of {id} {r : V → List V → Hp → VK → Prop} {x xs H Q} (p : MtR X id r) (h : r x xs H Q) : wMt X id x xs H Q := fun pins s σ v us I r1 r2 => p pins s σ H x xs v us Q I r1 r2 h
theorem wSet.of {r : TSet} {o i v H Q} (p : PSet X r) (h : r o i v H Q) : wSet X o i v H Q := fun pins s σ ov iv u I r1 r2 r3 => p pins s σ H o i v ov iv u Q I r1 r2 r3 h

theorem EP.mono {pins σ} {Q Q' : VK} {u s} (h : EP X pins σ Q u s) (k : ∀ v H, Q v H → Q' v H) : EP X pins σ Q' u s :=
  let ⟨v, H, I, r, q⟩ := h; ⟨v, H, I, r, k v H q⟩
theorem TP.mono {pins σ} {Q Q' : Bool → Hp → Prop} {u s} (h : TP X pins σ Q u s) (k : ∀ v H, Q v H → Q' v H) : TP X pins σ Q' u s :=
  let ⟨H, I, q⟩ := h; ⟨H, I, k _ H q⟩
theorem AP.mono {pins σ} {Q Q' : List V → Hp → Prop} {u s} (h : AP X pins σ Q u s) (k : ∀ v H, Q v H → Q' v H) : AP X pins σ Q' u s :=
  let ⟨v, H, I, r, q⟩ := h; ⟨v, H, I, r, k v H q⟩
theorem SP.mono {pins} {D D' : Ends} {f s} (h : SP X pins D f s) (k1 : ∀ v H, D.nx v H → D'.nx v H) (k2 : ∀ v H, D.rt v H → D'.rt v H) (k3 : ∀ v H, D.bk v H → D'.bk v H) (k4 : ∀ v H, D.ct v H → D'.ct v H) : SP X pins D' f s := by
  cases f with
  | next => obtain ⟨σ', H', I, q⟩ := h; exact ⟨σ', H', I, k1 _ _ q⟩
  | brk => obtain ⟨σ', H', I, q⟩ := h; exact ⟨σ', H', I, k3 _ _ q⟩
  | cont => obtain ⟨σ', H', I, q⟩ := h; exact ⟨σ', H', I, k4 _ _ q⟩
  | ret u => obtain ⟨v, σ', H', I, r, q⟩ := h; exact ⟨v, σ', H', I, r, k2 _ _ q⟩
theorem wE.mono {e σ H} {Q Q' : VK} (h : wE X e σ H Q) (k : ∀ v H, Q v H → Q' v H) : wE X e σ H Q' := fun pins s I => thn (h pins s I) fun _ _ z => EP.mono z k
theorem wT.mono {e σ H} {Q Q' : Bool → Hp → Prop} (h : wT X e σ H Q) (k : ∀ v H, Q v H → Q' v H) : wT X e σ H Q' := fun pins s I => thn (h pins s I) fun _ _ z => TP.mono z k
theorem wW.mono {e σ H} {Q Q' : Bool → Hp → Prop} (h : wW X e σ H Q) (k : ∀ v H, Q v H → Q' v H) : wW X e σ H Q' := fun wh pins s I => thn (h wh pins s I) fun _ _ z => TP.mono z k
theorem wA.mono {e σ H} {Q Q' : List V → Hp → Prop} (h : wA X e σ H Q) (k : ∀ v H, Q v H → Q' v H) : wA X e σ H Q' := fun po pins s I => thn (h po pins s I) fun _ _ z => AP.mono z k
theorem wSs.mono {e σ H} {D D' : Ends} (h : wSs X e D σ H) (k1 : ∀ v H, D.nx v H → D'.nx v H) (k2 : ∀ v H, D.rt v H → D'.rt v H) (k3 : ∀ v H, D.bk v H → D'.bk v H) (k4 : ∀ v H, D.ct v H → D'.ct v H) : wSs X e D' σ H := fun pins s I => thn (h pins s I) fun _ _ z => SP.mono z k1 k2 k3 k4
theorem wOp.mono {f x y H} {Q Q' : VK} (h : wOp X f x y H Q) (k : ∀ v H, Q v H → Q' v H) : wOp X f x y H Q' := fun pins s σ v u I r1 r2 => thn (h pins s σ v u I r1 r2) fun _ _ z => EP.mono z k
theorem wUn.mono {f x H} {Q Q' : VK} (h : wUn X f x H Q) (k : ∀ v H, Q v H → Q' v H) : wUn X f x H Q' := fun pins s σ v I r1 => thn (h pins s σ v I r1) fun _ _ z => EP.mono z k
theorem wCall.mono {f xs H} {Q Q' : VK} (h : wCall X f xs H Q) (k : ∀ v H, Q v H → Q' v H) : wCall X f xs H Q' := fun pins s σ us I r1 => thn (h pins s σ us I r1) fun _ _ z => EP.mono z k
theorem wIx.mono {x y H} {Q Q' : VK} (h : wIx X x y H Q) (k : ∀ v H, Q v H → Q' v H) : wIx X x y H Q' := fun va sl pins s σ v u I r1 r2 e => thn (h va sl pins s σ v u I r1 r2 e) fun _ _ z => EP.mono z k
theorem wMt.mono {id x xs H} {Q Q' : VK} (h : wMt X id x xs H Q) (k : ∀ v H, Q v H → Q' v H) : wMt X id x xs H Q' := fun pins s σ v us I r1 r2 => thn (h pins s σ v us I r1 r2) fun _ _ z => EP.mono z k
theorem wG.mono {e v σ H} {Q Q' : St → Hp → Prop} (h : wG X e v σ H Q) (k : ∀ v H, Q v H → Q' v H) : wG X e v σ H Q' := fun pins s u I r1 => thn (h pins s u I r1) fun _ _ ⟨a, b, c, d⟩ => ⟨a, b, c, k _ _ d⟩
theorem wSet.mono {o i v H} {Q Q' : Hp → Prop} (h : wSet X o i v H Q) (k : ∀ H, Q H → Q' H) : wSet X o i v H Q' := fun pins s σ ov iv u I r1 r2 r3 => thn (h pins s σ ov iv u I r1 r2 r3) fun _ _ ⟨b, c, d⟩ => ⟨b, c, k _ d⟩
end

/-! ### slots and ends by values -/
abbrev St3 := List (Option VV)
abbrev VQ := VV → Mp → Prop
structure En where
  nx : St3 → Mp → Prop
  rt : VQ
  bk : St3 → Mp → Prop := fun _ _ => False
  ct : St3 → Mp → Prop := fun _ _ => False
structure Slots (K : PySem.W.Frag) (H : Hp) (σ' : St) (σ : St3) : Prop where
  len : σ'.length = σ.length
  get : ∀ (i : Nat) (w : VV), σ[i]? = some (some w) → ∃ v, σ'[i]? = some (some v) ∧ Rv K H v w
section
variable {K : PySem.W.Frag} {H H' : Hp} {σ' : St} {σ : St3}
theorem Slots.mono (s : Slots K H σ' σ) (t : TM H H') : Slots K H' σ' σ := ⟨s.len, fun i w e => let ⟨v, a, b⟩ := s.get i w e; ⟨v, a, Rv.mono t _ _ b⟩⟩
theorem Slots.set {v : V} {w : VV} (s : Slots K H σ' σ) (i : Nat) (r : Rv K H v w) : Slots K H (σ'.set i (some v)) (σ.set i (some w)) := by
  refine ⟨by simp [s.len], fun j u e => ?_⟩
  by_cases h : i = j
  · subst h
    have hl : i < σ.length := by
      have := (List.getElem?_eq_some_iff.mp e).1; simpa using this
    rw [List.getElem?_set_self hl] at e
    cases e
    exact ⟨v, List.getElem?_set_self (by rw [s.len]; exact hl), r⟩
  · rw [List.getElem?_set_ne h] at e
    rw [List.getElem?_set_ne h]
    exact s.get j u e
/-- what a slot holds is let go -/
theorem Slots.unset (s : Slots K H σ' σ) (i : Nat) : Slots K H σ' (σ.set i none) := by
  refine ⟨by simp [s.len], fun j u e => ?_⟩
  by_cases h : i = j
  · subst h
    have hl : i < σ.length := by
      have := (List.getElem?_eq_some_iff.mp e).1; simpa using this
    rw [List.getElem?_set_self hl] at e
    cases e
  · rw [List.getElem?_set_ne h] at e
    exact s.get j u e
theorem Slots.start {vs : List V} {ws : List VV} (r : Rvs K H vs ws) (N : List Str) : Slots K H (L2.start N vs) (ws.map some ++ List.replicate (N.length - ws.length) none) := by
  refine ⟨by simp [L2.start, r.length], fun i w e => ?_⟩
  by_cases hi : i < ws.length
  · rw [List.getElem?_append_left (by simpa using hi), List.getElem?_map] at e
    cases q : ws[i]? with
    | none => rw [q] at e; cases e
    | some u =>
      rw [q] at e; cases e
      obtain ⟨v, a, b⟩ := r.get q
      refine ⟨v, ?_, b⟩
      unfold L2.start
      rw [List.getElem?_append_left (by rw [List.length_map, r.length]; exact hi), List.getElem?_map, a]; rfl
  · rw [List.getElem?_append_right (by simpa using hi), List.getElem?_replicate] at e
    split at e <;> cases e
end
/-! posts -/
def PoE (K : PySem.W.Frag) (H : Hp) (Q : VQ) : VK := fun v H' => ∃ w M', TM H H' ∧ SimM K M' H' ∧ Rv K H' v w ∧ Q w M'
def PoB (K : PySem.W.Frag) (H : Hp) (Q : Bool → Mp → Prop) : Bool → Hp → Prop := fun b H' => ∃ M', TM H H' ∧ SimM K M' H' ∧ Q b M'
def PoA (K : PySem.W.Frag) (H : Hp) (Q : List VV → Mp → Prop) : List V → Hp → Prop := fun vs H' => ∃ ws M', TM H H' ∧ SimM K M' H' ∧ Rvs K H' vs ws ∧ Q ws M'
def PoN (K : PySem.W.Frag) (H : Hp) (Q : Mp → Prop) : Hp → Prop := fun H' => ∃ M', TM H H' ∧ SimM K M' H' ∧ Q M'
def PoS (K : PySem.W.Frag) (H : Hp) (Q : St3 → Mp → Prop) : St → Hp → Prop := fun σ' H' => ∃ σ M', TM H H' ∧ Slots K H' σ' σ ∧ SimM K M' H' ∧ Q σ M'
def PoR (K : PySem.W.Frag) (H : Hp) (Q : VQ) : VK := fun v H' => ∃ w M', TM H H' ∧ SimM K M' H' ∧ Rv K H' v w ∧ Q w M'
def PoD (K : PySem.W.Frag) (H : Hp) (D : En) : Ends := ⟨PoS K H D.nx, PoR K H D.rt, PoS K H D.bk, PoS K H D.ct⟩
theorem PoS.tr {K H H1 Q σ' H'} (t : TM H H1) (h : PoS K H1 Q σ' H') : PoS K H Q σ' H' := let ⟨σ, M, a, b⟩ := h; ⟨σ, M, t.trans a, b⟩
theorem PoR.tr {K H H1 Q v H'} (t : TM H H1) (h : PoR K H1 Q v H') : PoR K H Q v H' := let ⟨σ, M, a, b⟩ := h; ⟨σ, M, t.trans a, b⟩
theorem PoE.tr {K H H1 Q v H'} (t : TM H H1) (h : PoE K H1 Q v H') : PoE K H Q v H' := let ⟨w, M, a, b⟩ := h; ⟨w, M, t.trans a, b⟩
theorem PoB.tr {K H H1 Q v H'} (t : TM H H1) (h : PoB K H1 Q v H') : PoB K H Q v H' := let ⟨M, a, b⟩ := h; ⟨M, t.trans a, b⟩
theorem PoA.tr {K H H1 Q v H'} (t : TM H H1) (h : PoA K H1 Q v H') : PoA K H Q v H' := let ⟨w, M, a, b⟩ := h; ⟨w, M, t.trans a, b⟩
theorem PoN.tr {K H H1 Q H'} (t : TM H H1) (h : PoN K H1 Q H') : PoN K H Q H' := let ⟨M, a, b⟩ := h; ⟨M, t.trans a, b⟩

/-! judgements -/
section
variable (X : Cx)
def WE (e : Expr) (σ : St3) (M : Mp) (Q : VQ) : Prop := ∀ σ' H, Slots X.K H σ' σ → SimM X.K M H → wE X e σ' H (PoE X.K H Q)
def WT (e : Expr) (σ : St3) (M : Mp) (Q : Bool → Mp → Prop) : Prop := ∀ σ' H, Slots X.K H σ' σ → SimM X.K M H → wT X e σ' H (PoB X.K H Q)
def WW (e : Expr) (σ : St3) (M : Mp) (Q : Bool → Mp → Prop) : Prop := ∀ σ' H, Slots X.K H σ' σ → SimM X.K M H → wW X e σ' H (PoB X.K H Q)
def WA (es : List Expr) (σ : St3) (M : Mp) (Q : List VV → Mp → Prop) : Prop := ∀ σ' H, Slots X.K H σ' σ → SimM X.K M H → wA X es σ' H (PoA X.K H Q)
def WS (st : Stmt) (σ : St3) (M : Mp) (D : En) : Prop := ∀ σ' H, Slots X.K H σ' σ → SimM X.K M H → wS X st (PoD X.K H D) σ' H
def WSs (st : List Stmt) (σ : St3) (M : Mp) (D : En) : Prop := ∀ σ' H, Slots X.K H σ' σ → SimM X.K M H → wSs X st (PoD X.K H D) σ' H
def WG (tg : Expr) (w : VV) (σ : St3) (M : Mp) (Q : St3 → Mp → Prop) : Prop := ∀ σ' H v, Slots X.K H σ' σ → SimM X.K M H → Rv X.K H v w → wG X tg v σ' H (PoS X.K H Q)
def WGs (tg : List Expr) (ws : List VV) (σ : St3) (M : Mp) (Q : St3 → Mp → Prop) : Prop := ∀ σ' H vs, Slots X.K H σ' σ → SimM X.K M H → Rvs X.K H vs ws → wGs X tg vs σ' H (PoS X.K H Q)
def O2 (f : Value → Value → Sem Value) (x y : VV) (M : Mp) (Q : VQ) : Prop := ∀ H v u, SimM X.K M H → Rv X.K H v x → Rv X.K H u y → wOp X f v u H (PoE X.K H Q)
def O1 (f : Value → Sem Value) (x : VV) (M : Mp) (Q : VQ) : Prop := ∀ H v, SimM X.K M H → Rv X.K H v x → wUn X f v H (PoE X.K H Q)
def OC (f : Value) (xs : List VV) (M : Mp) (Q : VQ) : Prop := ∀ H vs, SimM X.K M H → Rvs X.K H vs xs → wCall X f vs H (PoE X.K H Q)
def OI (x y : VV) (M : Mp) (Q : VQ) : Prop := ∀ H v u, SimM X.K M H → Rv X.K H v x → Rv X.K H u y → wIx X v u H (PoE X.K H Q)
def OM (id : String) (x : VV) (xs : List VV) (M : Mp) (Q : VQ) : Prop := ∀ H v vs, SimM X.K M H → Rv X.K H v x → Rvs X.K H vs xs → wMt X id v vs H (PoE X.K H Q)
def OSet (o i y : VV) (M : Mp) (Q : Mp → Prop) : Prop := ∀ H v1 v2 v3, SimM X.K M H → Rv X.K H v1 o → Rv X.K H v2 i → Rv X.K H v3 y → wSet X v1 v2 v3 H (PoN X.K H Q)
end
section
variable {X : Cx} {a b c e : Expr} {es : List Expr} {σ : St3} {M : Mp} {Q : VQ} {pos : Pos}
/-- run e, go on with its value -/
theorem WE.run {R : VQ} (h : WE X e σ M R) {σ' : St} {H : Hp} (s : Slots X.K H σ' σ) (m : SimM X.K M H) {P : VK}
    (k : ∀ v H1 x M1, TM H H1 → SimM X.K M1 H1 → Rv X.K H1 v x → Slots X.K H1 σ' σ → R x M1 → P v H1) : wE X e σ' H P :=
  (h σ' H s m).mono fun v H1 ⟨x, M1, t, m1, r, q⟩ => k v H1 x M1 t m1 r (s.mono t) q
theorem WT.run {R : Bool → Mp → Prop} (h : WT X e σ M R) {σ' : St} {H : Hp} (s : Slots X.K H σ' σ) (m : SimM X.K M H) {P : Bool → Hp → Prop}
    (k : ∀ v H1 M1, TM H H1 → SimM X.K M1 H1 → Slots X.K H1 σ' σ → R v M1 → P v H1) : wT X e σ' H P :=
  (h σ' H s m).mono fun v H1 ⟨M1, t, m1, q⟩ => k v H1 M1 t m1 (s.mono t) q
theorem WA.run {R : List VV → Mp → Prop} (h : WA X es σ M R) {σ' : St} {H : Hp} (s : Slots X.K H σ' σ) (m : SimM X.K M H) {P : List V → Hp → Prop}
    (k : ∀ v H1 x M1, TM H H1 → SimM X.K M1 H1 → Rvs X.K H1 v x → Slots X.K H1 σ' σ → R x M1 → P v H1) : wA X es σ' H P :=
  (h σ' H s m).mono fun v H1 ⟨x, M1, t, m1, r, q⟩ => k v H1 x M1 t m1 r (s.mono t) q
theorem WE.mono {R : VQ} (h : WE X e σ M R) (k : ∀ w M', R w M' → Q w M') : WE X e σ M Q := fun σ' H s m =>
  (h σ' H s m).mono fun v H1 ⟨x, M1, t, m1, r, q⟩ => ⟨x, M1, t, m1, r, k _ _ q⟩
/-- forget what is not asked for -/
theorem WE.sub {M0 : Mp} (h : WE X e σ M0 Q) (l : LeM M0 M) : WE X e σ M Q := fun σ' H s m => h σ' H s (m.sub l)
theorem WSs.sub {M0 : Mp} {st : List Stmt} {D : En} (h : WSs X st σ M0 D) (l : LeM M0 M) : WSs X st σ M D := fun σ' H s m => h σ' H s (m.sub l)
theorem WSs.mono {st : List Stmt} {D D' : En} (h : WSs X st σ M D) (k1 : ∀ σ M, D.nx σ M → D'.nx σ M) (k2 : ∀ w M, D.rt w M → D'.rt w M) (k3 : ∀ σ M, D.bk σ M → D'.bk σ M) (k4 : ∀ σ M, D.ct σ M → D'.ct σ M) : WSs X st σ M D' := fun σ' H s m =>
  (h σ' H s m).mono (fun _ _ ⟨a, b, t, c, d, e⟩ => ⟨a, b, t, c, d, k1 _ _ e⟩) (fun _ _ ⟨a, b, t, c, d, e⟩ => ⟨a, b, t, c, d, k2 _ _ e⟩) (fun _ _ ⟨a, b, t, c, d, e⟩ => ⟨a, b, t, c, d, k3 _ _ e⟩) (fun _ _ ⟨a, b, t, c, d, e⟩ => ⟨a, b, t, c, d, k4 _ _ e⟩)
theorem PoE.mk {K : PySem.W.Frag} {H : Hp} {w : VV} {v : V} (m : SimM K M H) (r : Rv K H v w) (q : Q w M) : PoE K H Q v H := ⟨w, M, TM.refl, m, r, q⟩

/-! ### names and constants -/
theorem we_name (i : Nat) {x : Str} {w : VV} (hN : X.N[i]? = some x) (hv : Vis X.env.scope x) (hs : σ[i]? = some (some w)) (q : Q w M) (hd : (x == ("__debug__" : Str)) = false := by decide) (hcd : (x == ("__classdict__" : Str)) = false := by decide) : WE X (.Name x pos) σ M Q :=
  fun σ' H s m => wE.of (pe_var (i := i) hN hv hd hcd) (let ⟨v, e, r⟩ := s.get i w hs; ⟨v, e, .mk m r q⟩)
theorem we_int {i j} (q : Q (.int i) M) : WE X (.Constant (.int i) j pos) σ M Q := fun _ _ s m => wE.of pe_int (PoE.mk m (.int i) q)
theorem we_bl {i j} (q : Q (.bl i) M) : WE X (.Constant (.bool i) j pos) σ M Q := fun _ _ s m => wE.of pe_bl (PoE.mk m (.bl i) q)
theorem we_non {j} (q : Q .non M) : WE X (.Constant .none j pos) σ M Q := fun _ _ s m => wE.of pe_non (PoE.mk m .non q)
theorem we_str {i j} (q : Q (.str i) M) : WE X (.Constant (.str i) j pos) σ M Q := fun _ _ s m => wE.of pe_str (PoE.mk m (.str i) q)
/-- a global's value, by what stands in the fragment -/
theorem we_glob {x : Str} {v : V} {u : Value} {w : VV} (hg : Gl X x) (hm : X.mg x = some u) (r : RelV v u) (rw : ∀ H, Rv X.K H v w) (q : Q w M) (hd : (x == ("__debug__" : Str)) = false := by decide) : WE X (.Name x pos) σ M Q :=
  fun _ H s m => wE.of (pe_glob hg hm r hd) (PoE.mk m (rw H) q)
theorem we_ty {x : Str} {n : String} (hg : Gl X x) (hm : X.mg x = none) (hv : bootBuiltins x = some (.type n)) (q : Q (.ty n) M) (hn : x ≠ "__name__" := by decide) (hd : (x == ("__debug__" : Str)) = false := by decide) : WE X (.Name x pos) σ M Q :=
  fun _ H s m => wE.of (pe_bltn (v := .ty n) hg hm hv rfl hn hd) (PoE.mk m (.ty n) q)

/-! ### operations -/
theorem we_op {op} (h : WE X a σ M fun x M1 => WE X b σ M1 fun y M2 => O2 X (binaryOp op) x y M2 Q) : WE X (.BinOp a op b pos) σ M Q := fun σ' H s m =>
  wE.of (pe_op wOp.op wE.pe wE.pe) (h.run s m fun v H1 x M1 t1 m1 r1 s1 q1 => q1.run s1 m1 fun u H2 y M2 t2 m2 r2 s2 q2 => wOp.mono (q2 H2 v u m2 (Rv.mono t2 _ _ r1) r2) fun _ _ z => PoE.tr (t1.trans t2) z)
theorem we_un {op} (h : WE X a σ M fun x M1 => O1 X (unaryOp op) x M1 Q) : WE X (.UnaryOp op a pos) σ M Q := fun σ' H s m =>
  wE.of (pe_un wUn.un wE.pe) (h.run s m fun v H1 x M1 t1 m1 r1 s1 q1 => wUn.mono (q1 H1 v m1 r1) fun _ _ z => PoE.tr t1 z)
theorem we_cmp {op} (h : WE X a σ M fun x M1 => WE X b σ M1 fun y M2 => O2 X (compareOp op) x y M2 Q) (hm : behindInMarks op b = false := by first | exact nomark _ | rfl | with_unfolding_all rfl) : WE X (.Compare a [op] [b] pos) σ M Q := fun σ' H s m =>
  wE.of (pe_cmpR wOp.op wE.pe wE.pe hm) (h.run s m fun v H1 x M1 t1 m1 r1 s1 q1 => q1.run s1 m1 fun u H2 y M2 t2 m2 r2 s2 q2 => wOp.mono (q2 H2 v u m2 (Rv.mono t2 _ _ r1) r2) fun _ _ z => PoE.tr (t1.trans t2) z)
/-- a bool comes -/
def BQ (Q : Bool → Mp → Prop) : VQ := fun w M => ∃ k, w = .bl k ∧ Q k M
theorem PoE.bq {K H} {Q : Bool → Mp → Prop} {x H1} (h : PoE K H (BQ Q) x H1) : ∃ k, x = .bl k ∧ PoB K H Q k H1 := by
  obtain ⟨w, M', t, m, r, k, rfl, q⟩ := h
  cases r
  exact ⟨k, rfl, M', t, m, q⟩
variable {B : Bool → Mp → Prop}
theorem wt_cmp {op} (h : WE X a σ M fun x M1 => WE X b σ M1 fun y M2 => O2 X (compareOp op) x y M2 (BQ B)) (hm : behindInMarks op b = false := by first | exact nomark _ | rfl | with_unfolding_all rfl) : WT X (.Compare a [op] [b] pos) σ M B := fun σ' H s m =>
  wT.of (pt_cmpR wOp.op wE.pe wE.pe hm) (h.run s m fun v H1 x M1 t1 m1 r1 s1 q1 => q1.run s1 m1 fun u H2 y M2 t2 m2 r2 s2 q2 => wOp.mono (q2 H2 v u m2 (Rv.mono t2 _ _ r1) r2) fun _ _ z => (PoE.tr (t1.trans t2) z).bq)
theorem we_chain {op op'} (h : WE X a σ M fun x M1 => WE X b σ M1 fun y M2 => O2 X (compareOp op) x y M2 (BQ fun k M3 => if k = true then WE X c σ M3 fun z M4 => O2 X (compareOp op') y z M4 Q else Q (.bl false) M3))
    (hm : lastMarks [op, op'] [b, c] = false := by with_unfolding_all rfl) : WE X (.Compare a [op, op'] [b, c] pos) σ M Q := fun σ' H s m =>
  wE.of (pe_chain wOp.op wOp.op wE.pe wE.pe wE.pe hm) (h.run s m fun v H1 x M1 t1 m1 r1 s1 q1 => q1.run s1 m1 fun u H2 y M2 t2 m2 r2 s2 q2 => wOp.mono (q2 H2 v u m2 (Rv.mono t2 _ _ r1) r2) fun z H3 e => by
    obtain ⟨k, rfl, M3, t3, m3, q3⟩ := e.bq
    refine ⟨k, rfl, ?_⟩
    cases k with
    | false => exact iteF ⟨.bl false, M3, (t1.trans t2).trans t3, m3, .bl false, by simpa using q3⟩
    | true =>
      refine iteT ?_
      rw [if_pos rfl] at q3
      exact q3.run (s2.mono t3) m3 fun u' H4 y' M4 t4 m4 r4 s4 q4 => wOp.mono (q4 H4 u u' m4 (Rv.mono (t3.trans t4) _ _ r2) r4) fun _ _ z => PoE.tr (((t1.trans t2).trans t3).trans t4) z)
theorem wt_chain {op op'} (h : WE X a σ M fun x M1 => WE X b σ M1 fun y M2 => O2 X (compareOp op) x y M2 (BQ fun k M3 => if k = true then WE X c σ M3 fun z M4 => O2 X (compareOp op') y z M4 (BQ B) else B false M3))
    (hm : lastMarks [op, op'] [b, c] = false := by with_unfolding_all rfl) : WT X (.Compare a [op, op'] [b, c] pos) σ M B := fun σ' H s m =>
  wT.of (pt_chain wOp.op wOp.op wE.pe wE.pe wE.pe hm) (h.run s m fun v H1 x M1 t1 m1 r1 s1 q1 => q1.run s1 m1 fun u H2 y M2 t2 m2 r2 s2 q2 => wOp.mono (q2 H2 v u m2 (Rv.mono t2 _ _ r1) r2) fun z H3 e => by
    obtain ⟨k, rfl, M3, t3, m3, q3⟩ := e.bq
    refine ⟨k, rfl, ?_⟩
    cases k with
    | false => exact iteF ⟨false, rfl, M3, (t1.trans t2).trans t3, m3, by simpa using q3⟩
    | true =>
      refine iteT ?_
      rw [if_pos rfl] at q3
      exact q3.run (s2.mono t3) m3 fun u' H4 y' M4 t4 m4 r4 s4 q4 => wOp.mono (q4 H4 u u' m4 (Rv.mono (t3.trans t4) _ _ r2) r4) fun _ _ z => (PoE.tr (((t1.trans t2).trans t3).trans t4) z).bq)
/-- truth -/
inductive Tr (M : Mp) : VV → Bool → Prop
  | non : Tr M .non false
  | bl (b : Bool) : Tr M (.bl b) b
  | int (i : Int) : Tr M (.int i) (i != 0)
  | str (x : Str) : x.length ≤ sizeLine → Tr M (.str x) ((x.length : Int) != 0)
  | lst {a ws} : M a = some (.lst ws) → Tr M (.ref a) (!ws.isEmpty)
  | seq (ws : List VV) : Tr M (.seq ws) (!ws.isEmpty)
  | tup (ws : List VV) : Tr M (.tup ws) (!ws.isEmpty)
  | dK {a kvs} : M a = some (.dK kvs) → Tr M (.ref a) (!kvs.isEmpty)
theorem Rvs.empty {K : PySem.W.Frag} {H : Hp} {vs ws} (h : Rvs K H vs ws) : vs.isEmpty = ws.isEmpty := by cases h <;> rfl
theorem Rkv.empty {K : PySem.W.Frag} {H : Hp} {κ : Type} {vs : List (κ × V)} {ws} (h : Rkv K H vs ws) : vs.isEmpty = ws.isEmpty := by cases h <;> rfl
theorem Tr.v {K : PySem.W.Frag} {H : Hp} {w : VV} {v : V} {k : Bool} (h : Tr M w k) (m : SimM K M H) (r : Rv K H v w) : TruV K v H k := by
  cases h with
  | non => cases r; exact rfl
  | bl b => cases r; exact rfl
  | int b => cases r; exact rfl
  | str b hl => cases r; exact ⟨hl, rfl⟩
  | lst e => cases r; obtain ⟨vs, h1, h2⟩ := m _ _ e; exact .inl ⟨vs, SqL.of h1, by rw [h2.empty]⟩
  | seq ws => cases r with | seq h1 h2 => exact .inl ⟨_, h1.sql, by rw [h2.empty]⟩
  | tup ws => cases r with | tup h1 h2 => exact .inr (.inl ⟨_, h1, by rw [h2.empty]⟩)
  | dK e => cases r; obtain ⟨vs, h1, h2⟩ := m _ _ e; exact .inr (.inr ⟨vs, h1, by rw [h2.empty]⟩)
theorem wt_truth (h : WE X a σ M fun x M1 => ∃ k, Tr M1 x k ∧ B k M1) (he : ∀ whole, isTrue a X.env whole = (do let v ← whole; standAt a.pos; holding [v] (truthy v)) := by intro _; rfl) : WT X a σ M B := fun σ' H s m =>
  wT.of (pt_truth wE.pe he) (h.run s m fun v H1 x M1 t1 m1 r1 s1 ⟨k, tr, q⟩ => ⟨k, tr.v m1 r1, M1, t1, m1, q⟩)
theorem wt_w (h : WW X e σ M B) : WT X e σ M B := fun σ' H s m pins st I => h σ' H s m _ pins st I
theorem ww_and1 (h : WT X a σ M B) : WW X (.BoolOp .And [a] pos) σ M B := fun σ' H s m => wW.of (pw_and1 wT.pt) (h σ' H s m)
theorem ww_or1 (h : WT X a σ M B) : WW X (.BoolOp .Or [a] pos) σ M B := fun σ' H s m => wW.of (pw_or1 wT.pt) (h σ' H s m)
theorem ww_and {r} (h : WT X a σ M fun k M1 => if k = true then WW X (.BoolOp .And (b :: r) pos) σ M1 B else B false M1) : WW X (.BoolOp .And (a :: b :: r) pos) σ M B := fun σ' H s m =>
  wW.of (pw_and wT.pt wW.pw) (h.run s m fun k H1 M1 t1 m1 s1 q1 => by
    cases k with
    | true => rw [if_pos rfl] at q1 ⊢; exact (q1 σ' H1 s1 m1).mono fun _ _ z => PoB.tr t1 z
    | false => exact ⟨M1, t1, m1, by simpa using q1⟩)
theorem ww_or {r} (h : WT X a σ M fun k M1 => if k = true then B true M1 else WW X (.BoolOp .Or (b :: r) pos) σ M1 B) : WW X (.BoolOp .Or (a :: b :: r) pos) σ M B := fun σ' H s m =>
  wW.of (pw_or wT.pt wW.pw) (h.run s m fun k H1 M1 t1 m1 s1 q1 => by
    cases k with
    | false => rw [if_neg Bool.false_ne_true] at q1 ⊢; exact (q1 σ' H1 s1 m1).mono fun _ _ z => PoB.tr t1 z
    | true => exact ⟨M1, t1, m1, by simpa using q1⟩)
theorem wt_not (h : WT X a σ M fun k M1 => B (!k) M1) : WT X (.UnaryOp .Not a pos) σ M B := fun σ' H s m =>
  wT.of (pt_not wT.pt) (h.run s m fun k H1 M1 t1 m1 s1 q1 => ⟨M1, t1, m1, q1⟩)
theorem we_one {op} (h : WE X a σ M Q) : WE X (.BoolOp op [a] pos) σ M Q := fun σ' H s m => wE.of (pe_one wE.pe) (h σ' H s m)
theorem we_and {r} (h : WE X a σ M (BQ fun k M1 => if k = true then WE X (.BoolOp .And (b :: r) pos) σ M1 Q else Q (.bl false) M1)) : WE X (.BoolOp .And (a :: b :: r) pos) σ M Q := fun σ' H s m =>
  wE.of (pe_and wE.pe wE.pe) (h.run s m fun v H1 x M1 t1 m1 r1 s1 ⟨k, hk, q1⟩ => by
    subst hk; cases r1
    refine ⟨k, rfl, ?_⟩
    cases k with
    | true => rw [if_pos rfl] at q1 ⊢; exact (q1 σ' H1 s1 m1).mono fun _ _ z => PoE.tr t1 z
    | false => exact ⟨_, M1, t1, m1, .bl false, by simpa using q1⟩)
theorem we_or {r} (h : WE X a σ M (BQ fun k M1 => if k = true then Q (.bl true) M1 else WE X (.BoolOp .Or (b :: r) pos) σ M1 Q)) : WE X (.BoolOp .Or (a :: b :: r) pos) σ M Q := fun σ' H s m =>
  wE.of (pe_or wE.pe wE.pe) (h.run s m fun v H1 x M1 t1 m1 r1 s1 ⟨k, hk, q1⟩ => by
    subst hk; cases r1
    refine ⟨k, rfl, ?_⟩
    cases k with
    | false => rw [if_neg Bool.false_ne_true] at q1 ⊢; exact (q1 σ' H1 s1 m1).mono fun _ _ z => PoE.tr t1 z
    | true => exact ⟨_, M1, t1, m1, .bl true, by simpa using q1⟩)
theorem we_not (h : WE X a σ M (BQ fun k M1 => Q (.bl (!k)) M1)) : WE X (.UnaryOp .Not a pos) σ M Q := fun σ' H s m =>
  wE.of (pe_not wE.pe) (h.run s m fun v H1 x M1 t1 m1 r1 s1 ⟨k, hk, q1⟩ => by
    subst hk; cases r1
    exact ⟨k, rfl, _, M1, t1, m1, .bl _, q1⟩)
theorem we_if (h : WT X c σ M fun k M1 => if k = true then WE X a σ M1 Q else WE X b σ M1 Q) : WE X (.IfExp c a b pos) σ M Q := fun σ' H s m =>
  wE.of (pe_ifExp wT.pt wE.pe wE.pe) (h.run s m fun k H1 M1 t1 m1 s1 q1 => by
    cases k with
    | true => rw [if_pos rfl] at q1 ⊢; exact (q1 σ' H1 s1 m1).mono fun _ _ z => PoE.tr t1 z
    | false => rw [if_neg Bool.false_ne_true] at q1 ⊢; exact (q1 σ' H1 s1 m1).mono fun _ _ z => PoE.tr t1 z)
/-! ### argument lists, displays -/
variable {A : List VV → Mp → Prop}
theorem wa_nil (q : A [] M) : WA X [] σ M A := fun σ' H s m => wA.of pa_nil ⟨[], M, TM.refl, m, .nil, q⟩
theorem wa_cons (h : WE X e σ M fun x M1 => WA X es σ M1 fun xs M2 => A (x :: xs) M2) (hs : starEach (e :: es) X.env = (false, eval e X.env) :: starEach es X.env := by rfl) : WA X (e :: es) σ M A := fun σ' H s m =>
  wA.of (pa_cons wE.pe wA.pa hs) (h.run s m fun v H1 x M1 t1 m1 r1 s1 q1 => q1.run s1 m1 fun vs H2 xs M2 t2 m2 r2 s2 q2 => ⟨x :: xs, M2, t1.trans t2, m2, .cons (Rv.mono t2 _ _ r1) r2, q2⟩)
theorem we_tup {x1} (h : WA X es σ M fun xs M1 => xs.length ≤ sizeLine ∧ Q (.tup xs) M1) : WE X (.Tuple es x1 pos) σ M Q := fun σ' H s m =>
  wE.of (pe_tup wA.pa) (h.run s m fun v H1 x M1 t1 m1 r1 s1 ⟨hl, q1⟩ => ⟨by rw [r1.length]; exact hl, fun p hp => ⟨.tup x, M1, t1.trans (TM.fresh hp), m1.alloc hp, .tup (SqT.of upd_same) (Rvs.mono (TM.fresh hp) _ _ r1), q1⟩⟩)
theorem we_lst (h : WA X es σ M fun xs M1 => xs.length ≤ sizeLine ∧ ∀ p, M1 p = none → Q (.ref p) (updM M1 p (.lst xs))) : WE X (.List es pos) σ M Q := fun σ' H s m =>
  wE.of (pe_lst wA.pa) (h.run s m fun v H1 x M1 t1 m1 r1 s1 ⟨hl, q1⟩ => ⟨by rw [r1.length]; exact hl, fun p hp => ⟨.ref p, _, t1.trans (TM.fresh hp), m1.putL (TM.fresh hp) (.inl hp) r1, .ref p, q1 p (m1.no hp)⟩⟩)
theorem we_ix (h : WE X a σ M fun x M1 => WE X b σ M1 fun y M2 => OI X x y M2 Q) (hs : PlainIx b := by exact fun _ _ => rfl) : WE X (.Subscript a b pos) σ M Q := fun σ' H s m =>
  wE.of (pe_ix wIx.ix wE.pe wE.pe hs) (h.run s m fun v H1 x M1 t1 m1 r1 s1 q1 => q1.run s1 m1 fun u H2 y M2 t2 m2 r2 s2 q2 => wIx.mono (q2 H2 v u m2 (Rv.mono t2 _ _ r1) r2) fun _ _ z => PoE.tr (t1.trans t2) z)
end
end G3

set_option Elab.async false
set_option linter.all false
set_option maxRecDepth 100000
set_option maxHeartbeats 4000000
/-! L3: operations, calls, statements, loops, defs -/
namespace G3
open PySem PySem.Spec L2

/-- a list's items, by content or in the heap -/
inductive Lst (M : Mp) : VV → List VV → Prop
  | ref {a ws} : M a = some (.lst ws) → Lst M (.ref a) ws
  | seq (ws) : Lst M (.seq ws) ws
theorem Lst.v {K : PySem.W.Frag} {M : Mp} {H : Hp} {v : V} {w : VV} {ws : List VV} (h : Lst M w ws) (m : SimM K M H) (r : Rv K H v w) : ∃ a vs, v = .ref a ∧ SqL K H a vs ∧ Rvs K H vs ws := by
  cases h with
  | ref e => cases r; obtain ⟨vs, h1, h2⟩ := m _ _ e; exact ⟨_, vs, rfl, SqL.of h1, h2⟩
  | seq => cases r with | seq h1 h2 => exact ⟨_, _, rfl, h1.sql, h2⟩
theorem Rv.tupv {K : PySem.W.Frag} {H : Hp} {v : V} {ws : List VV} (r : Rv K H v (.tup ws)) : ∃ a vs, v = .ref a ∧ SqT K H a vs ∧ Rvs K H vs ws := by
  cases r with | tup h1 h2 => exact ⟨_, _, rfl, h1, h2⟩
/-- the x-th name -/
inductive At : List Str → Nat → Str → Prop
  | here {a l} : At (a :: l) 0 a
  | there {a b l n} : At l n a → At (b :: l) (n + 1) a
theorem At.get {l n a} (h : At l n a) : l[n]? = some a := by
  induction h with
  | here => rfl
  | there _ ih => simpa using ih

/-- what is known of a body's context -/
structure Bd (P : Program) (w : World) (K : PySem.W.Frag) (mg : Str → Option Value) (base : Heap) (CX : CXT) (N : List Str) (sc : Scope) (fl : Bool) (k : Nat) (X : Cx) : Prop where
  eprog : X.prog = P
  ew : X.w = w
  eK : X.K = K
  emg : X.mg = mg
  ebase : X.base = base
  eN : X.N = N
  esc : X.env.scope = sc
  calm : X.calm = true
  room : Room k X.A
  pas : ∀ Y : Cx, Y.prog = P → Y.w = w → Passes CX Y E0
  own : PassesOwn (model X.prog X.w) X.A X.env X.xe
  nd : N.Nodup
  fn : fl = true → ∀ x, X.fn x = true

section
variable {X : Cx} {M : Mp} {Q : VQ}
/-! ### ints -/
theorem o2_add {i j} (q : Q (.int (i + j)) M) : O2 X (binaryOp .Add) (.int i) (.int j) M Q := fun H v u m r1 r2 => by
  cases r1; cases r2; exact wOp.of op_add ⟨i, j, rfl, rfl, .mk m (.int _) q⟩
theorem o2_sub {i j} (q : Q (.int (i - j)) M) : O2 X (binaryOp .Sub) (.int i) (.int j) M Q := fun H v u m r1 r2 => by
  cases r1; cases r2; exact wOp.of op_sub ⟨i, j, rfl, rfl, .mk m (.int _) q⟩
theorem o2_mul {i j} (c : CMul i j ∨ CMulW i j) (q : Q (.int (i * j)) M) : O2 X (binaryOp .Mult) (.int i) (.int j) M Q := fun H v u m r1 r2 => by
  cases r1; cases r2
  rcases c with c | c
  · exact wOp.of op_mul ⟨i, j, rfl, rfl, c, .mk m (.int _) q⟩
  · exact wOp.of op_mulW ⟨i, j, rfl, rfl, c, .mk m (.int _) q⟩
/-- // by a divisor of either sign below 2 ^ 9000 -/
def CDivV (_ j : Int) : Prop := j ≠ 0 ∧ j.natAbs.log2 < 9000
theorem op_fdivV : OpR X (binaryOp .FloorDiv) (rI CDivV fun i j => .int (i.fdiv j)) := opI fun i j _ _ _ _ _ hc q =>
  PyProof.Rows.floordiv_int hc.1 q (.inl (PyProof.noPylong_of_log2 hc.2))
theorem o2_fdiv {i j} (c : CDivV i j) (q : Q (.int (i.fdiv j)) M) : O2 X (binaryOp .FloorDiv) (.int i) (.int j) M Q := fun H v u m r1 r2 => by
  cases r1; cases r2; exact wOp.of op_fdivV ⟨i, j, rfl, rfl, c, .mk m (.int _) q⟩
theorem o2_div {i j} (h : 0 < j) (c : j < 1073741824) (q : Q (.int (i / j)) M) : O2 X (binaryOp .FloorDiv) (.int i) (.int j) M Q := fun H v u m r1 r2 => by
  cases r1; cases r2; exact wOp.of op_fdiv ⟨i, j, rfl, rfl, ⟨h, c⟩, .mk m (.int _) q⟩
theorem o2_mod {i j} (c : 0 < j) (q : Q (.int (i % j)) M) : O2 X (binaryOp .Mod) (.int i) (.int j) M Q := fun H v u m r1 r2 => by
  cases r1; cases r2; exact wOp.of op_mod ⟨i, j, rfl, rfl, c, .mk m (.int _) q⟩
theorem o2_pow {i j} (c : CPow i j) (q : Q (.int (i ^ j.toNat)) M) : O2 X (binaryOp .Pow) (.int i) (.int j) M Q := fun H v u m r1 r2 => by
  cases r1; cases r2; exact wOp.of op_pow ⟨i, j, rfl, rfl, c, .mk m (.int _) q⟩
theorem o1_neg {i} (q : Q (.int (-i)) M) : O1 X (unaryOp .USub) (.int i) M Q := fun H v m r1 => by
  cases r1; exact wUn.of un_neg ⟨i, rfl, .mk m (.int _) q⟩
theorem o2_lt {i j} (q : Q (.bl (decide (i < j))) M) : O2 X (compareOp .Lt) (.int i) (.int j) M Q := fun H v u m r1 r2 => by
  cases r1; cases r2; exact wOp.of op_lt ⟨i, j, rfl, rfl, .mk m (.bl _) q⟩
theorem o2_le {i j} (q : Q (.bl (decide (i ≤ j))) M) : O2 X (compareOp .LtE) (.int i) (.int j) M Q := fun H v u m r1 r2 => by
  cases r1; cases r2; exact wOp.of op_le ⟨i, j, rfl, rfl, .mk m (.bl _) q⟩
theorem o2_gt {i j} (q : Q (.bl (decide (j < i))) M) : O2 X (compareOp .Gt) (.int i) (.int j) M Q := fun H v u m r1 r2 => by
  cases r1; cases r2; exact wOp.of op_gt ⟨i, j, rfl, rfl, .mk m (.bl _) q⟩
theorem o2_ge {i j} (q : Q (.bl (decide (j ≤ i))) M) : O2 X (compareOp .GtE) (.int i) (.int j) M Q := fun H v u m r1 r2 => by
  cases r1; cases r2; exact wOp.of op_ge ⟨i, j, rfl, rfl, .mk m (.bl _) q⟩
theorem o2_eqi {i j : Int} (q : Q (.bl (decide (i = j))) M) : O2 X (compareOp .Eq) (.int i) (.int j) M Q := fun H v u m r1 r2 => by
  cases r1; cases r2
  exact wOp.of op_eq ⟨rfl, .mk m (.bl _) (by simpa using q)⟩
theorem o2_nei {i j : Int} (q : Q (.bl (!decide (i = j))) M) : O2 X (compareOp .NotEq) (.int i) (.int j) M Q := fun H v u m r1 r2 => by
  cases r1; cases r2
  exact wOp.of op_ne ⟨rfl, .mk m (.bl _) (by simpa using q)⟩
theorem o2_eqb {i j : Bool} (q : Q (.bl (decide (i = j))) M) : O2 X (compareOp .Eq) (.bl i) (.bl j) M Q := fun H v u m r1 r2 => by
  cases r1; cases r2
  exact wOp.of op_eq ⟨rfl, .mk m (.bl _) (by simpa using q)⟩
theorem o2_neb {i j : Bool} (q : Q (.bl (!decide (i = j))) M) : O2 X (compareOp .NotEq) (.bl i) (.bl j) M Q := fun H v u m r1 r2 => by
  cases r1; cases r2
  exact wOp.of op_ne ⟨rfl, .mk m (.bl _) (by simpa using q)⟩
theorem o2_eqs {i j : Str} (q : Q (.bl (decide (i = j))) M) : O2 X (compareOp .Eq) (.str i) (.str j) M Q := fun H v u m r1 r2 => by
  cases r1; cases r2
  exact wOp.of op_eq ⟨rfl, .mk m (.bl _) (by simpa using q)⟩
theorem o2_nes {i j : Str} (q : Q (.bl (!decide (i = j))) M) : O2 X (compareOp .NotEq) (.str i) (.str j) M Q := fun H v u m r1 r2 => by
  cases r1; cases r2
  exact wOp.of op_ne ⟨rfl, .mk m (.bl _) (by simpa using q)⟩
def isNon : VV → Bool
  | .non => true
  | _ => false
theorem Rv.isNon {K : PySem.W.Frag} {H : Hp} {v w} (r : Rv K H v w) : decide (v = V.non) = isNon w := by
  cases r <;> simp [G3.isNon]
theorem o2_isN {x} (q : Q (.bl (isNon x)) M) : O2 X (compareOp .Is) x .non M Q := fun H v u m r1 r2 => by
  cases r2
  exact wOp.of op_isN ⟨rfl, .mk m (.bl _) (by rw [r1.isNon]; exact q)⟩
theorem o2_notN {x} (q : Q (.bl (!isNon x)) M) : O2 X (compareOp .IsNot) x .non M Q := fun H v u m r1 r2 => by
  cases r2
  exact wOp.of op_notN ⟨rfl, .mk m (.bl _) (by rw [r1.isNon]; exact q)⟩

/-! ### == of data -/
mutual
inductive DW (M : Mp) : VV → PyData → Prop
  | non : DW M .non .none
  | bl (b : Bool) : DW M (.bl b) (.bool b)
  | int (i : Int) : DW M (.int i) (.int i)
  | str (x : Str) : DW M (.str x) (.str x)
  | lst {w ws ds} : Lst M w ws → DWs M ws ds → DW M w (.list ds)
  | tup {ws ds} : DWs M ws ds → DW M (.tup ws) (.tuple ds)
  | ftp {ws ds} : DWs M ws ds → DW M (.ftp ws) (.tuple ds)
inductive DWs (M : Mp) : List VV → List PyData → Prop
  | nil : DWs M [] []
  | cons {v : VV} {vs : List VV} {d : PyData} {ds : List PyData} : DW M v d → DWs M vs ds → DWs M (v :: vs) (d :: ds)
end
mutual
theorem DW.dp {K : PySem.W.Frag} {M : Mp} {H : Hp} (m : SimM K M H) : ∀ (d : PyData) (w : VV) (v : V), DW M w d → Rv K H v w → Dp K H v d
  | .none, _, _, h, r => by cases h; cases r; exact .non
  | .bool b, _, _, h, r => by cases h; cases r; exact .bl b
  | .int b, _, _, h, r => by cases h; cases r; exact .int b
  | .str b, _, _, h, r => by cases h; cases r; exact .str b
  | .list ds, _, _, h, r => by
    cases h with
    | lst hl hs =>
      obtain ⟨a, vs, rfl, h1, h2⟩ := hl.v m r
      exact .lst h1 (DWs.dp m ds _ _ hs h2)
  | .tuple ds, _, _, h, r => by
    cases h with
    | tup hs =>
      obtain ⟨a, vs, rfl, h1, h2⟩ := r.tupv
      exact .tup h1 (DWs.dp m ds _ _ hs h2)
    | ftp hs =>
      cases r with
      | ftp h1 h2 => exact .tup (SqT.of h1) (DWs.dp m ds _ _ hs h2)
  | .dict _, _, _, h, _ => by cases h
theorem DWs.dp {K : PySem.W.Frag} {M : Mp} {H : Hp} (m : SimM K M H) : ∀ (ds : List PyData) (ws : List VV) (vs : List V), DWs M ws ds → Rvs K H vs ws → DpAll K H vs ds
  | [], _, _, h, r => by cases h; cases r; exact .nil
  | d :: ds, _, _, h, r => by
    cases h with
    | cons h1 h2 => cases r with | cons r1 r2 => exact .cons (DW.dp m d _ _ h1 r1) (DWs.dp m ds _ _ h2 r2)
end
theorem o2_eqD {x y d e} (hu : X.A.units + 64 < cLine) (h1 : DW M x d) (h2 : DW M y e) (s1 : SeqAt.shaped d = true) (s2 : SeqAt.shaped e = true) (q : Q (.bl (PyData.eqv d e)) M) : O2 X (compareOp .Eq) x y M Q := fun H v u m r1 r2 =>
  wOp.of (op_eqD hu) ⟨d, e, h1.dp m _ _ _ r1, h2.dp m _ _ _ r2, s1, s2, .mk m (.bl _) q⟩
theorem o2_neD {x y d e} (hu : X.A.units + 64 < cLine) (h1 : DW M x d) (h2 : DW M y e) (s1 : SeqAt.shaped d = true) (s2 : SeqAt.shaped e = true) (q : Q (.bl (!PyData.eqv d e)) M) : O2 X (compareOp .NotEq) x y M Q := fun H v u m r1 r2 =>
  wOp.of (op_neD hu) ⟨d, e, h1.dp m _ _ _ r1, h2.dp m _ _ _ r2, s1, s2, .mk m (.bl _) q⟩

/-! ### calls of what is built in -/
theorem oc_abs {i : Int} (q : Q (.int i.natAbs) M) : OC X (.builtin "abs") [.int i] M Q := fun H vs m r => by
  cases r with | cons r1 r2 => cases r1; cases r2; exact wCall.of call_abs ⟨i, rfl, .mk m (.int _) (by
    have : (if i < 0 then -i else i) = (i.natAbs : Int) := by split <;> omega
    rw [this]; exact q)⟩
theorem oc_len {w ws} (h : Lst M w ws) (q : Q (.int ws.length) M) : OC X (.builtin "len") [w] M Q := fun H vs m r => by
  cases r with
  | cons r1 r2 =>
    cases r2
    obtain ⟨a, vs, rfl, h1, h2⟩ := h.v m r1
    exact wCall.of call_len_seq ⟨a, vs, rfl, .inl h1, .mk m (.int _) (by rw [h2.length]; exact q)⟩
theorem oc_lenT {ws} (q : Q (.int ws.length) M) : OC X (.builtin "len") [.tup ws] M Q := fun H vs m r => by
  cases r with
  | cons r1 r2 =>
    cases r2
    obtain ⟨a, vs, rfl, h1, h2⟩ := r1.tupv
    exact wCall.of call_len_seq ⟨a, vs, rfl, .inr h1, .mk m (.int _) (by rw [h2.length]; exact q)⟩
theorem oc_list {w ws} (h : Lst M w ws) (q : ∀ p, M p = none → Q (.ref p) (updM M p (.lst ws))) : OC X (.type "list") [w] M Q := fun H vs m r => by
  cases r with
  | cons r1 r2 =>
    cases r2
    obtain ⟨a, vs, rfl, h1, h2⟩ := h.v m r1
    exact wCall.of call_list_of ⟨a, vs, rfl, .inl h1, fun l hl => ⟨.ref l, _, TM.fresh hl, m.putL (TM.fresh hl) (.inl hl) h2, .ref l, q l (m.no hl)⟩⟩
theorem oc_listT {ws} (q : ∀ p, M p = none → Q (.ref p) (updM M p (.lst ws))) : OC X (.type "list") [.tup ws] M Q := fun H vs m r => by
  cases r with
  | cons r1 r2 =>
    cases r2
    obtain ⟨a, vs, rfl, h1, h2⟩ := r1.tupv
    exact wCall.of call_list_of ⟨a, vs, rfl, .inr h1, fun l hl => ⟨.ref l, _, TM.fresh hl, m.putL (TM.fresh hl) (.inl hl) h2, .ref l, q l (m.no hl)⟩⟩
theorem oc_tuple {w ws} (h : Lst M w ws) (q : Q (.tup ws) M) : OC X (.type "tuple") [w] M Q := fun H vs m r => by
  cases r with
  | cons r1 r2 =>
    cases r2
    obtain ⟨a, vs, rfl, h1, h2⟩ := h.v m r1
    exact wCall.of call_tuple_of ⟨a, vs, rfl, .inl ⟨h1, fun l hl => ⟨.tup ws, M, TM.fresh hl, m.alloc hl, .tup (SqT.of upd_same) (Rvs.mono (TM.fresh hl) _ _ h2), q⟩⟩⟩
theorem oc_int {i} (q : Q (.int i) M) : OC X (.type "int") [.int i] M Q := fun H vs m r => by
  cases r with | cons r1 r2 => cases r1; cases r2; exact wCall.of call_int1 (.inl ⟨i, rfl, .mk m (.int _) q⟩)
theorem oc_intb {k : Bool} (q : Q (.int (if k then 1 else 0)) M) : OC X (.type "int") [.bl k] M Q := fun H vs m r => by
  cases r with | cons r1 r2 => cases r1; cases r2; exact wCall.of call_int1 (.inr ⟨k, rfl, .mk m (.int _) q⟩)
theorem oc_max2 (hc : X.calm = true) {i j : Int} (q : Q (.int (if j > i then j else i)) M) : OC X (.builtin "max") [.int i, .int j] M Q := fun H vs m r => by
  cases r with | cons r1 r2 => cases r2 with | cons r3 r4 => cases r1; cases r3; cases r4; exact wCall.of (call_max2 hc) ⟨i, j, rfl, .mk m (.int _) q⟩
theorem oc_min2 (hc : X.calm = true) {i j : Int} (q : Q (.int (if j < i then j else i)) M) : OC X (.builtin "min") [.int i, .int j] M Q := fun H vs m r => by
  cases r with | cons r1 r2 => cases r2 with | cons r3 r4 => cases r1; cases r3; cases r4; exact wCall.of (call_min2 hc) ⟨i, j, rfl, .mk m (.int _) q⟩
theorem oc_all (hc : X.calm = true) {w} {bs : List Bool} (h : Lst M w (bs.map .bl)) (q : Q (.bl (bs.all id)) M) : OC X (.builtin "all") [w] M Q := fun H vs m r => by
  cases r with
  | cons r1 r2 =>
    cases r2
    obtain ⟨a, vs, rfl, h1, h2⟩ := h.v m r1
    rw [h2.bls] at h1
    exact wCall.of (cr_all hc) ⟨a, bs, rfl, h1, .mk m (.bl _) q⟩
theorem oc_any (hc : X.calm = true) {w} {bs : List Bool} (h : Lst M w (bs.map .bl)) (q : Q (.bl (bs.any id)) M) : OC X (.builtin "any") [w] M Q := fun H vs m r => by
  cases r with
  | cons r1 r2 =>
    cases r2
    obtain ⟨a, vs, rfl, h1, h2⟩ := h.v m r1
    rw [h2.bls] at h1
    exact wCall.of (cr_any hc) ⟨a, bs, rfl, h1, .mk m (.bl _) q⟩
/-- isinstance: by the type's name -/
inductive TyW (M : Mp) : VV → String → Prop
  | non : TyW M .non "NoneType"
  | bl (b) : TyW M (.bl b) "bool"
  | int (i) : TyW M (.int i) "int"
  | str (x) : TyW M (.str x) "str"
  | lst {a ws} : M a = some (.lst ws) → TyW M (.ref a) "list"
  | dK {a ws} : M a = some (.dK ws) → TyW M (.ref a) "dict"
  | dT {a ws} : M a = some (.dT ws) → TyW M (.ref a) "dict"
  | tup (ws) : TyW M (.tup ws) "tuple"
  | seq (ws) : TyW M (.seq ws) "list"
  | ftp (ws) : TyW M (.ftp ws) "tuple"
theorem TyW.x {K : PySem.W.Frag} {H : Hp} {w T v} (h : TyW M w T) (m : SimM K M H) (r : Rv K H v w) : TyX K H v (.type T) := by
  cases h with
  | non => cases r; exact .base .non
  | bl => cases r; exact .base (.bl _)
  | int => cases r; exact .base (.int _)
  | str => cases r; exact .base (.str _)
  | lst e => cases r; obtain ⟨vs, h1, h2⟩ := m _ _ e; exact .base (.lst h1)
  | dK e => cases r; obtain ⟨vs, h1, h2⟩ := m _ _ e; exact .base (.dK h1)
  | dT e => cases r; obtain ⟨vs, h1, h2⟩ := m _ _ e; exact .base (.dT h1)
  | tup =>
    obtain ⟨a, vs, rfl, h1, h2⟩ := r.tupv
    rcases h1 with (h1 | ⟨o, h1⟩) | ⟨o, its, n, h1, hc, _⟩
    · exact .base (.tup h1)
    · exact .fTuple h1
    · exact .kTuple h1 hc
  | ftp =>
    cases r with
    | ftp h1 h2 => exact .base (.tup h1)
  | seq =>
    cases r with
    | seq h1 h2 =>
      rcases h1 with ⟨o, h1⟩ | ⟨o, its, n, h1, hc, _⟩
      · exact .base (.frz h1)
      · exact .kList h1 hc
theorem oc_isi {w T n} {b : Bool} (h : TyW M w T) (e : kitB T n = some b) (q : Q (.bl b) M) : OC X (.builtin "isinstance") [w, .ty n] M Q := fun H vs m r => by
  cases r with
  | cons r1 r2 =>
    cases r2 with
    | cons r3 r4 =>
      cases r3; cases r4
      exact wCall.of call_isi ⟨_, _, _, _, b, rfl, .ty n, h.x m r1, kit_ty e, .mk m (.bl _) q⟩
/-- of two types -/
theorem oc_isi2 {w T n n'} {b b' : Bool} (h : TyW M w T) (e : kitB T n = some b) (e' : kitB T n' = some b') (q : Q (.bl (b || b')) M) : OC X (.builtin "isinstance") [w, .tup [.ty n, .ty n']] M Q := fun H vs m r => by
  cases r with
  | cons r1 r2 =>
    cases r2 with
    | cons r3 r4 =>
      cases r4
      cases r3 with
      | @tup p us _ h1 h2 =>
      cases h2 with | cons a1 h2 => cases h2 with | cons a2 h2 =>
      cases a1; cases a2; cases h2
      have ka : PySem.W.kitAny X.K (.type T) [.type n, .type n'] = some (b || b') := by
        refine kitAny_cons (kit_ty e) (fun hb => ?_) (fun hb => by rw [hb]; rfl)
        subst hb
        rw [Bool.false_or]
        refine kitAny_cons (kit_ty e') (fun hb => ?_) (fun hb => hb)
        subst hb; rfl
      rcases h1 with (h1 | ⟨o, h1⟩) | ⟨o, its, nn, h1, hc, hd, hs, hv⟩
      · exact wCall.of call_isiT ⟨_, p, _, _, _, _, rfl, h1, .cons (.ty n) (.cons (.ty n') .nil), h.x m r1, ka, .mk m (.bl _) q⟩
      · exact fun pins s σ us I rr => by
          obtain ⟨u1, u2, rfl, r1', r2'⟩ := vals2 rr
          cases (show u2 = Value.ref p from r2')
          obtain ⟨P, Z, pp, hx⟩ := kit_of I r1' (h.x m r1)
          obtain ⟨_, _, its, rv, o', h1', h2', n0, h3'⟩ := (show ObjOk X.prog X.w H s.heap p (.frz o (.tup [.ty n, .ty n'])) from I.hok p _ h1)
          have e3 := ClsV.all (.cons (.ty n) (.cons (.ty n') .nil)) rv
          subst e3
          obtain ⟨oc, od, dt, sl⟩ := o'
          simp only at h2' h3'
          subst h2' h3'
          exact PySem.W.kia_tup Z I.kIn pp h1' ka hx fun tk => ⟨.bl _, H, I.tok tk, rfl, .mk m (.bl _) q⟩
      · obtain ⟨oc, od, dt, sl⟩ := o
        simp only at hc hd
        subst hc hd
        have e3 := ClsV.all (.cons (.ty n) (.cons (.ty n') .nil)) hv
        have e4 : its = [Value.type n, Value.type n'].toArray := by rw [← e3]
        subst e4
        exact wCall.of call_isiK ⟨_, p, _, _, _, _, _, _, rfl, h1, h.x m r1, ka, .mk m (.bl _) q⟩

/-! ### subscripts -/
theorem atI_get3 {K : PySem.W.Frag} {H : Hp} {vs : List V} {ws : List VV} {i : Int} {w : VV} (r : Rvs K H vs ws) (h : atI ws i = some w) : ∃ v, atI vs i = some v ∧ Rv K H v w := by
  unfold atI at h ⊢
  rw [r.length]
  cases e : ixN ws.length i with
  | none => rw [e] at h; cases h
  | some j =>
    rw [e] at h
    exact r.get (i := j) h
theorem oi_lst {x ws i w} (h : Lst M x ws) (e : atI ws i = some w) (q : Q w M) : OI X x (.int i) M Q := fun H v u m r1 r2 => by
  cases r2
  obtain ⟨a, vs, rfl, h1, h2⟩ := h.v m r1
  obtain ⟨v, e', rv⟩ := atI_get3 h2 e
  exact wIx.of ix_list ⟨a, vs, i, v, rfl, rfl, h1, e', .mk m rv q⟩
theorem oi_tup {ws i w} (e : atI ws i = some w) (q : Q w M) : OI X (.tup ws) (.int i) M Q := fun H v u m r1 r2 => by
  cases r2
  obtain ⟨a, vs, rfl, h1, h2⟩ := r1.tupv
  obtain ⟨v, e', rv⟩ := atI_get3 h2 e
  exact wIx.of ix_tup ⟨a, vs, i, v, rfl, rfl, h1, e', .mk m rv q⟩
theorem oset_lst {a ws k j y} {Q : Mp → Prop} (h : M a = some (.lst ws)) (e : ixN ws.length k = some j) (q : Q (updM M a (.lst (ws.set j y)))) : OSet X (.ref a) (.int k) y M Q := fun H v1 v2 v3 m r1 r2 r3 => by
  cases r1; cases r2
  obtain ⟨vs, h1, h2⟩ := m _ _ h
  exact wSet.of set_list ⟨a, vs, k, j, rfl, rfl, h1, by rw [h2.length]; exact e, _, TM.lst h1, m.putL (TM.lst h1) (.inr ⟨_, h⟩) (h2.set j r3), q⟩
end

/-! ### names, calls, by what is known of the context -/
section
variable {P : Program} {w : World} {K : PySem.W.Frag} {mg : Str → Option Value} {base : Heap} {CX : CXT} {N : List Str} {sc : Scope} {fl : Bool} {k : Nat} {X : Cx}
variable {a b c e : Expr} {es : List Expr} {σ : St3} {M : Mp} {Q : VQ} {D : En} {pos : Pos} {x : Str} {i : Nat}
def VisK (sc : Scope) (x : Str) : Prop := sc.names.lookup x = some .local ∨ sc.names.lookup x = some .cell ∨ sc.names.lookup x = some .free
theorem we_nm (B : Bd P w K mg base CX N sc fl k X) {u : VV} (hi : At N i x) (hv : VisK sc x) (hs : σ[i]? = some (some u)) (q : Q u M) (hd : (x == ("__debug__" : Str)) = false := by decide) (hcd : (x == ("__classdict__" : Str)) = false := by decide) : WE X (.Name x pos) σ M Q :=
  we_name i (by rw [B.eN]; exact hi.get) (by rw [B.esc]; exact hv) hs q hd hcd
/-- a def's promise by values -/
abbrev Sp3 := List VV → Mp → VQ → Prop
def toSp (K : PySem.W.Frag) (sp : Sp3) : Sp := fun vs H Q _ => ∃ ws M Q3, SimM K M H ∧ Rvs K H vs ws ∧ sp ws M Q3 ∧ ∀ u M' v H', Q3 u M' → TM H H' → SimM K M' H' → Rv K H' v u → Q v H'
/-- the def x stands and keeps sp -/
def Df (P : Program) (w : World) (K : PySem.W.Frag) (mg : Str → Option Value) (base : Heap) (CX : CXT) (k : Nat) (x : Str) (ps : List Str) (sp : Sp3) : Prop :=
  ∃ f fd, mg x = some (.ref f) ∧ PySem.W.keepIn K (.ref f) = true ∧ (∀ (s : Shared) (us : List Value), us.length = ps.length → BindsTo s fd ⟨us, []⟩ (ps.zip us)) ∧ FnOk P w K mg base CX k f fd ps (toSp K sp) ∧ ∃ oc od osl, K.lookup f = some ⟨oc, od, .func fd, osl⟩
theorem Df.imp {k' : Nat} {ps : List Str} {sp sp' : Sp3} (D : Df P w K mg base CX k' x ps sp) (h : ∀ ws M Q, sp' ws M Q → sp ws M Q) : Df P w K mg base CX k' x ps sp' :=
  let ⟨f, fd, h1, h2, h3, h4, h5⟩ := D; ⟨f, fd, h1, h2, h3, h4.imp fun _ _ _ _ ⟨ws, M, Q3, a, b, c, d⟩ => ⟨ws, M, Q3, a, b, h _ _ _ c, d⟩, h5⟩
theorem we_call {k' : Nat} {ps : List Str} {sp : Sp3} {p : Pos} (B : Bd P w K mg base CX N sc fl k X) (F : Df P w K mg base CX k' x ps sp) (hk : k' ≤ k) (hg : sc.names.lookup x = some .globalImplicit)
    (h : WA X (e :: es) σ M fun ws M1 => sp ws M1 Q) (hdb : (x == ("__debug__" : Str)) = false := by decide) (he : starEach (e :: es) X.env = (false, eval e X.env) :: starEach es X.env := by rfl) (hpl : (backTo pos (starEach es X.env)).any (·.1) = false := by rfl) :
    WE X (.Call (.Name x p) (e :: es) [] pos) σ M Q := by
  obtain ⟨rfl, rfl, rfl, rfl, rfl, rfl, rfl, _, room, pas, _⟩ := B
  obtain ⟨f, fd, hmg, hkp, hb0, hf, _⟩ := F
  have hb : Binds X.K fd ps [] := fun s us _ hl => by rw [List.append_nil] at hl ⊢; exact hb0 s us hl
  exact fun σ' H s m => wE.of (pe_call hf (room.mono hk) hg hmg hkp hb .nil (pas X rfl rfl) wA.pa hdb he hpl)
    (h.run s m fun vs H1 ws M1 t1 m1 r1 s1 q1 => ⟨ws, M1, Q, m1, by rw [List.append_nil]; exact r1, q1, fun u M' v H' q t2 m2 r2 => ⟨u, M', t1.trans t2, m2, r2, q⟩⟩)
end
end G3

set_option Elab.async false
set_option linter.all false
set_option maxRecDepth 100000
set_option maxHeartbeats 4000000
/-! L3: statements, loops, comprehensions, defs -/
namespace G3
open PySem PySem.Spec L2
theorem wS.mono {X : Cx} {e σ H} {D D' : Ends} (h : wS X e D σ H) (k1 : ∀ v H, D.nx v H → D'.nx v H) (k2 : ∀ v H, D.rt v H → D'.rt v H) (k3 : ∀ v H, D.bk v H → D'.bk v H) (k4 : ∀ v H, D.ct v H → D'.ct v H) : wS X e D' σ H := fun pins s I => thn (h pins s I) fun _ _ z => SP.mono z k1 k2 k3 k4
theorem wGs.mono {X : Cx} {e v σ H} {Q Q' : St → Hp → Prop} (h : wGs X e v σ H Q) (k : ∀ v H, Q v H → Q' v H) : wGs X e v σ H Q' := fun pins s u I r1 => thn (h pins s u I r1) fun _ _ ⟨a, b, c, d⟩ => ⟨a, b, c, k _ _ d⟩
section
variable {X : Cx} {a b c e tg : Expr} {es : List Expr} {st : Stmt} {rest : List Stmt} {σ : St3} {M : Mp} {Q : VQ} {D : En} {pos : Pos} {x : Str} {i : Nat}
/-- a block run behind heap H -/
theorem WSs.at {sts : List Stmt} (h : WSs X sts σ M D) {σ' : St} {H H1 : Hp} (t : TM H H1) (s : Slots X.K H1 σ' σ) (m : SimM X.K M H1) : wSs X sts (PoD X.K H D) σ' H1 :=
  (h σ' H1 s m).mono (fun _ _ z => PoS.tr t z) (fun _ _ z => PoR.tr t z) (fun _ _ z => PoS.tr t z) fun _ _ z => PoS.tr t z
theorem WG.at {u : VV} {R : St3 → Mp → Prop} (h : WG X tg u σ M R) {σ' : St} {H H1 : Hp} {v : V} (t : TM H H1) (s : Slots X.K H1 σ' σ) (m : SimM X.K M H1) (r : Rv X.K H1 v u) : wG X tg v σ' H1 (PoS X.K H R) :=
  (h σ' H1 v s m r).mono fun _ _ z => PoS.tr t z
theorem wss_nil (q : D.nx σ M) : WSs X [] σ M D := fun σ' H s m => wSs.of pss_nil ⟨σ, M, TM.refl, s, m, q⟩
theorem wss_cons (h : WS X st σ M { D with nx := fun σ1 M1 => WSs X rest σ1 M1 D }) : WSs X (st :: rest) σ M D := fun σ' H s m =>
  wSs.of (pss_cons wS.ps wSs.pss) (show wS X st _ σ' H from (h σ' H s m).mono (fun σ1 H1 ⟨σ2, M2, t2, s2, m2, q⟩ => q.at t2 s2 m2) (fun _ _ z => z) (fun _ _ z => z) fun _ _ z => z)
/-- the rest is met from P alone -/
theorem wss_cut (P : St3 → Mp → Prop) (h : WS X st σ M { D with nx := P }) (k : ∀ σ M, P σ M → WSs X rest σ M D) : WSs X (st :: rest) σ M D := wss_cons fun σ' H s m =>
  (h σ' H s m).mono (fun _ _ ⟨a, b, c, d, e, f⟩ => ⟨a, b, c, d, e, k _ _ f⟩) (fun _ _ z => z) (fun _ _ z => z) fun _ _ z => z
theorem ws_pass (q : D.nx σ M) : WS X (.Pass pos) σ M D := fun σ' H s m => wS.of ps_pass ⟨σ, M, TM.refl, s, m, q⟩
theorem ws_break (q : D.bk σ M) : WS X (.Break pos) σ M D := fun σ' H s m => wS.of ps_break ⟨σ, M, TM.refl, s, m, q⟩
theorem ws_continue (q : D.ct σ M) : WS X (.Continue pos) σ M D := fun σ' H s m => wS.of ps_continue ⟨σ, M, TM.refl, s, m, q⟩
theorem ws_expr (h : WE X e σ M fun _ M1 => D.nx σ M1) (hs : swapsWith e none pos.line X.env = pure false := by rfl) : WS X (.Expr e pos) σ M D := fun σ' H s m =>
  wS.of (ps_expr wE.pe hs) (h.run s m fun v H1 x M1 t1 m1 r1 s1 q => ⟨σ, M1, t1, s1, m1, q⟩)
theorem ws_ret (h : WE X e σ M D.rt) : WS X (.Return (some e) pos) σ M D := fun σ' H s m =>
  wS.of (ps_ret wE.pe) (h.run s m fun v H1 x M1 t1 m1 r1 s1 q => ⟨x, M1, t1, m1, r1, q⟩)
theorem ws_retN (h : D.rt .non M) : WS X (.Return none pos) σ M D := fun σ' H s m => wS.of ps_retN ⟨.non, M, TM.refl, m, .non, h⟩
theorem ws_if {a b : List Stmt} (h : WT X c σ M fun k M1 => if k = true then WSs X a σ M1 D else WSs X b σ M1 D) : WS X (.If c a b pos) σ M D := fun σ' H s m =>
  wS.of (ps_if wT.pt wSs.pss wSs.pss) (h.run s m fun k H1 M1 t1 m1 s1 q1 => by
    cases k with
    | true => rw [if_pos rfl] at q1 ⊢; exact q1.at t1 s1 m1
    | false => rw [if_neg Bool.false_ne_true] at q1 ⊢; exact q1.at t1 s1 m1)
theorem ws_asg (h : WE X e σ M fun u M1 => WG X tg u σ M1 D.nx) (hs : swapsWithSole [tg] e pos.line X.env = pure false := by rfl) (hw : swappedStores [tg] e X.env = pure none := by rfl)
    (h1 : (assignEach [tg] X.env).map (·.2) = [assign tg X.env] := by rfl) : WS X (.Assign [tg] e pos) σ M D := fun σ' H s m =>
  wS.of (ps_asg wE.pe wG.pg hs hw h1) (h.run s m fun v H1 x M1 t1 m1 r1 s1 q => q.at t1 s1 m1 r1)
variable {P : Program} {w : World} {K : PySem.W.Frag} {mg : Str → Option Value} {base : Heap} {CX : CXT} {N : List Str} {sc : Scope} {fl : Bool} {k : Nat}
def LocK (sc : Scope) (x : Str) : Prop := sc.names.lookup x = some .local ∨ sc.names.lookup x = some .cell
theorem Bd.hf (B : Bd P w K mg base CX N sc fl k X) (hf : fl = true ∨ sc.names.lookup x = some .local) : X.fn x = true ∨ X.env.scope.names.lookup x = some .local := by
  rcases hf with hf | hf
  · exact .inl (B.fn hf x)
  · exact .inr (by rw [B.esc]; exact hf)
theorem ws_set (B : Bd P w K mg base CX N sc fl k X) {pos' : Pos} (hi : At N i x) (hx : LocK sc x) (h : WE X e σ M fun u M1 => D.nx (σ.set i (some u)) M1) (hf : fl = true ∨ sc.names.lookup x = some .local := by first | exact .inl rfl | exact .inr rfl)
    (hs : swapsWith e (some (.Name x pos')) pos.line X.env = pure false := by rfl) : WS X (.Assign [.Name x pos'] e pos) σ M D := fun σ' H s m =>
  wS.of (ps_set (i := i) (by rw [B.eN]; exact B.nd) (by rw [B.eN]; exact hi.get) (by rw [B.esc]; exact hx) wE.pe hs (B.hf hf)) (h.run s m fun v H1 u M1 t1 m1 r1 s1 q => ⟨_, M1, t1, s1.set i r1, m1, q⟩)
/-! targets -/
theorem wg_name (B : Bd P w K mg base CX N sc fl k X) {u : VV} {R : St3 → Mp → Prop} (hi : At N i x) (hx : LocK sc x) (q : R (σ.set i (some u)) M) (hf : fl = true ∨ sc.names.lookup x = some .local := by first | exact .inl rfl | exact .inr rfl) : WG X (.Name x pos) u σ M R := fun σ' H v s m r =>
  wG.of (pg_name (i := i) (by rw [B.eN]; exact B.nd) (by rw [B.eN]; exact hi.get) (by rw [B.esc]; exact hx) (B.hf hf)) ⟨_, M, TM.refl, s.set i r, m, q⟩
theorem wgs_nil {R : St3 → Mp → Prop} (q : R σ M) : WGs X [] [] σ M R := fun σ' H vs s m r => by
  cases r; exact wGs.of pgs_nil ⟨rfl, σ, M, TM.refl, s, m, q⟩
/-- targets that change no tracked object: names and tuples of names -/
theorem wgs_cons {R : St3 → Mp → Prop} {u : VV} {us : List VV} (B : Bd P w K mg base CX N sc fl k X) {pos : Pos} (hi : At N i x) (hx : LocK sc x) (q : WGs X es us (σ.set i (some u)) M R) (hf : fl = true ∨ sc.names.lookup x = some .local := by first | exact .inl rfl | exact .inr rfl)
    (hs : (assignEach (.Name x pos :: es) X.env).map (·.2) = assign (.Name x pos) X.env :: (assignEach es X.env).map (·.2) := by rfl) : WGs X (.Name x pos :: es) (u :: us) σ M R := fun σ' H vs s m r => by
  cases r with
  | cons r1 r2 =>
    exact wGs.of (pgs_cons (pg_name (i := i) (by rw [B.eN]; exact B.nd) (by rw [B.eN]; exact hi.get) (by rw [B.esc]; exact hx) (B.hf hf)) wGs.pgs hs) ⟨_, _, rfl, q _ H _ (s.set i r1) m r2⟩
theorem wg_tup (B : Bd P w K mg base CX N sc fl k X) {R : St3 → Mp → Prop} {us : List VV} {kk : Nat} (q : WGs X es us σ M R) (hn : (assignEach es X.env).length = us.length := by rfl) (hst : (assignEach es X.env).findIdx? (·.1) = none := by rfl) : WG X (.Tuple es kk pos) (.tup us) σ M R := fun σ' H v s m r => by
  obtain ⟨a, vs, rfl, h1, h2⟩ := r.tupv
  exact wG.of (pg_tup B.calm wGs.pgs rfl hst) ⟨a, vs, rfl, h1, by rw [h2.length]; exact hn.symm, q σ' H vs s m h2⟩
theorem wg_sub {R : St3 → Mp → Prop} {u : VV} (h : WE X a σ M fun o M1 => WE X b σ M1 fun ix M2 => OSet X o ix u M2 fun M3 => R σ M3)
    (ha : ∀ v, assign (.Subscript a b pos) X.env v = (do
      let ov ← holding [v] (eval a X.env)
      let iv ← holding [v, ov] (eval b X.env)
      standAt pos
      holding [v, ov, iv] (setItem ov iv v)
      release [v, ov, iv] []) := by intro _; rfl) : WG X (.Subscript a b pos) u σ M R := fun σ' H v s m r =>
  wG.of (pg_sub wE.pe wE.pe wSet.ps ha) (h.run s m fun o H1 x1 M1 t1 m1 r1 s1 q1 => q1.run s1 m1 fun y H2 x2 M2 t2 m2 r2 s2 q2 =>
    wSet.mono (q2 H2 o y v m2 (Rv.mono t2 _ _ r1) r2 (Rv.mono (t1.trans t2) _ _ r)) fun H3 ⟨M3, t3, m3, q3⟩ => ⟨σ, M3, (t1.trans t2).trans t3, s2.mono t3, m3, q3⟩)
/-- x, y = a, b of local names -/
theorem ws_par (B : Bd P w K mg base CX N sc fl k X) {j : Nat} {y : Str} {px py pt : Pos} {kt k2 pt2} (hi : At N i x) (hj : At N j y) (hij : i ≠ j) (hx : sc.names.lookup x = some .local) (hy : sc.names.lookup y = some .local)
    (h : WA X [a, b] σ M fun us M1 => ∃ u v, us = [u, v] ∧ D.nx ((σ.set i (some u)).set j (some v)) M1)
    (hw : X.env.scope = sc → swappedStores [.Tuple [.Name x px, .Name y py] kt pt] (.Tuple [a, b] k2 pt2) X.env = pure (some [x, y]))
    (hs : swapsWithSole [.Tuple [.Name x px, .Name y py] kt pt] (.Tuple [a, b] k2 pt2) pos.line X.env = pure false := by rfl) :
    WS X (.Assign [.Tuple [.Name x px, .Name y py] kt pt] (.Tuple [a, b] k2 pt2) pos) σ M D := fun σ' H s m =>
  wS.of (ps_par (i := i) (j := j) B.calm (by rw [B.eN]; exact B.nd) (by rw [B.eN]; exact hi.get) (by rw [B.eN]; exact hj.get) hij (by rw [B.esc]; exact hx) (by rw [B.esc]; exact hy) wA.pa (hw B.esc) hs)
    (h.run s m fun vs H1 us M1 t1 m1 r1 s1 ⟨u, v, e, q⟩ => by
      subst e
      cases r1 with | cons r1 r2 => cases r2 with | cons r2 r3 => cases r3; exact ⟨_, _, rfl, _, M1, t1, (s1.set i r1).set j r2, m1, q⟩)
/-! loops -/
theorem ws_while (B : Bd P w K mg base CX N sc fl k X) {body : List Stmt} (W : Nat → St3 → Mp → Prop) (m0 : Nat) (h0 : W m0 σ M)
    (hs : ∀ n σ M, W n σ M → WT X c σ M fun k M1 => if k = true then WSs X body σ M1 { nx := fun σ' M' => ∃ n', n' < n ∧ W n' σ' M', ct := fun σ' M' => ∃ n', n' < n ∧ W n' σ' M', bk := D.nx, rt := D.rt } else D.nx σ M1) : WS X (.While c body [] pos) σ M D := fun σ' H s m =>
  wS.of (ps_while B.own wT.pt wSs.pss) ⟨fun n => PoS X.K H (W n), ⟨m0, σ, M, TM.refl, s, m, h0⟩, fun n σ1 H1 ⟨σ2, M2, t2, s2, m2, w2⟩ => (hs n σ2 M2 w2).run s2 m2 fun kk H3 M3 t3 m3 s3 q3 => by
    cases kk with
    | true =>
      rw [if_pos rfl] at q3 ⊢
      refine ⟨PoS X.K H fun σ' M' => ∃ n', n' < n ∧ W n' σ' M', fun σ4 H4 ⟨σ5, M5, t5, s5, m5, n', l, w5⟩ => ⟨n', l, σ5, M5, t5, s5, m5, w5⟩, q3.at (t2.trans t3) s3 m3⟩
    | false => rw [if_neg Bool.false_ne_true] at q3 ⊢; exact ⟨σ2, M3, t2.trans t3, s3, m3, q3⟩⟩
/-- the turns of a loop over n items -/
def Turns (X : Cx) (tg : Expr) (body : List Stmt) (D : En) (n : Nat) (it : Nat → VV → Prop) (hold : Mp → Prop) (σ : St3) (M : Mp) : Prop := ∃ Pv : Nat → St3 → Mp → Prop, Pv 0 σ M ∧ (∀ i σ M, i ≤ n → Pv i σ M → hold M) ∧
  (∀ i u σ M, i < n → it i u → Pv i σ M → WG X tg u σ M fun σ2 M2 => WSs X body σ2 M2 { nx := Pv (i + 1), ct := Pv (i + 1), bk := D.nx, rt := D.rt }) ∧ ∀ σ M, Pv n σ M → D.nx σ M
theorem ws_forRange1 (B : Bd P w K mg base CX N sc fl k X) {p pos' : Pos} {body : List Stmt} (hg : sc.names.lookup ("range" : Str) = some .globalImplicit) (hm : mg "range" = none)
    (h : WA X [a] σ M fun us M1 => ∃ j : Int, us = [.int j] ∧ (-(2 ^ 62) ≤ j ∧ j < 2 ^ 62) ∧ Turns X tg body D j.toNat (fun i u => u = .int i) (fun _ => True) σ M1)
    (hsp : starEach [a] X.env = [(false, eval a X.env)] := by rfl) (hs : ∀ x, foldedSetIterable (.Call (.Name "range" p) [a] [] pos') X.env x = pure x := by intro _; rfl) : WS X (.For tg (.Call (.Name "range" p) [a] [] pos') body [] pos) σ M D := fun σ' H s m =>
  wS.of (ps_for B.own B.calm (pi_range1 (by show X.env.scope.names.lookup _ = _; rw [B.esc]; exact hg) (by rw [B.emg]; exact hm) wA.pa hsp) wG.pg wSs.pss hs)
    (h.run s m fun vs H1 us M1 t1 m1 r1 s1 ⟨j, e, ⟨l1, l2⟩, Pv, p0, _, ps, pe⟩ => by
      subst e
      cases r1 with | cons r1 r2 =>
      cases r1; cases r2
      refine ⟨j, rfl, l1, l2, for_range (fun i => PoS X.K H (Pv i)) ⟨σ, M1, t1, s1, m1, p0⟩ (fun i σ2 H2 hi ⟨σ3, M3, t3, s3, m3, p3⟩ => ?_) fun σ2 H2 ⟨σ3, M3, t3, s3, m3, p3⟩ => ⟨σ3, M3, t3, s3, m3, pe _ _ p3⟩⟩
      exact ((ps i (.int i) σ3 M3 hi rfl p3).at t3 s3 m3 (by rw [Int.zero_add]; exact .int _)).mono fun σ4 H4 ⟨σ5, M5, t5, s5, m5, q5⟩ => q5.at t5 s5 m5)
theorem ws_forRange2 (B : Bd P w K mg base CX N sc fl k X) {p pos' : Pos} {body : List Stmt} (hg : sc.names.lookup ("range" : Str) = some .globalImplicit) (hm : mg "range" = none)
    (h : WA X [a, b] σ M fun us M1 => ∃ i j : Int, us = [.int i, .int j] ∧ (-(2 ^ 62) ≤ i ∧ i < 2 ^ 62 ∧ -(2 ^ 62) ≤ j ∧ j < 2 ^ 62) ∧ Turns X tg body D (j - i).toNat (fun n u => u = .int (i + n)) (fun _ => True) σ M1)
    (hsp : starEach [a, b] X.env = [(false, eval a X.env), (false, eval b X.env)] := by rfl) (hsp2 : starEach [b] X.env = [(false, eval b X.env)] := by rfl) (hs : ∀ x, foldedSetIterable (.Call (.Name "range" p) [a, b] [] pos') X.env x = pure x := by intro _; rfl) : WS X (.For tg (.Call (.Name "range" p) [a, b] [] pos') body [] pos) σ M D := fun σ' H s m =>
  wS.of (ps_for B.own B.calm (pi_range2 (by show X.env.scope.names.lookup _ = _; rw [B.esc]; exact hg) (by rw [B.emg]; exact hm) wA.pa hsp hsp2) wG.pg wSs.pss hs)
    (h.run s m fun vs H1 us M1 t1 m1 r1 s1 ⟨i, j, e, l, Pv, p0, _, ps, pe⟩ => by
      subst e
      cases r1 with | cons r1 r2 => cases r2 with | cons r2 r3 =>
      cases r1; cases r2; cases r3
      refine ⟨i, j, rfl, l, for_range (fun i => PoS X.K H (Pv i)) ⟨σ, M1, t1, s1, m1, p0⟩ (fun i' σ2 H2 hi ⟨σ3, M3, t3, s3, m3, p3⟩ => ?_) fun σ2 H2 ⟨σ3, M3, t3, s3, m3, p3⟩ => ⟨σ3, M3, t3, s3, m3, pe _ _ p3⟩⟩
      exact ((ps i' (.int (i + i')) σ3 M3 hi rfl p3).at t3 s3 m3 (.int _)).mono fun σ4 H4 ⟨σ5, M5, t5, s5, m5, q5⟩ => q5.at t5 s5 m5)
theorem ws_forLst (B : Bd P w K mg base CX N sc fl k X) {body : List Stmt} (h : WE X e σ M fun u M1 => ∃ ws, Lst M1 u ws ∧ Turns X tg body D ws.length (fun i v => ws[i]? = some v) (fun M => Lst M u ws) σ M1)
    (hs : ∀ x, foldedSetIterable e X.env x = pure x := by intro _; rfl) : WS X (.For tg e body [] pos) σ M D := fun σ' H s m =>
  wS.of (ps_for B.own B.calm (pi_list wE.pe) wG.pg wSs.pss hs)
    (h.run s m fun v H1 u M1 t1 m1 r1 s1 ⟨ws, hl, Pv, p0, ph, ps, pe⟩ => by
      obtain ⟨a, vs, rfl, h1, h2⟩ := hl.v m1 r1
      have stays : ∀ {H2 M2}, SimM X.K M2 H2 → Lst M2 u ws → TM H1 H2 → ∃ vs, SqL X.K H2 a vs ∧ Rvs X.K H2 vs ws := fun {H2 M2} m2 hl2 t => by
        obtain ⟨a', vs', e', q1, q2⟩ := hl2.v m2 (Rv.mono t _ _ r1)
        cases e'
        exact ⟨vs', q1, q2⟩
      refine ⟨a, rfl, ⟨vs, h1⟩, fun i n σ2 H2 => n = ws.length - i ∧ i ≤ ws.length ∧ PoS X.K H1 (Pv i) σ2 H2, ⟨_, rfl, Nat.zero_le _, σ, M1, TM.refl, s1, m1, p0⟩, ?_⟩
      rintro i n σ2 H2 ⟨rfl, hi, σ3, M3, t3, s3, m3, p3⟩
      obtain ⟨vs, hv, rv⟩ := stays m3 (ph i σ3 M3 hi p3) t3
      have hlen := rv.length
      by_cases hlt : i < ws.length
      · obtain ⟨x, hx, rx⟩ := rv.get (i := i) (w := ws[i]) (by simp [hlt])
        refine .inr ⟨⟨vs, x, hv, hx⟩, PoS X.K H1 (Pv (i + 1)), fun σ' H' z => ⟨_, by omega, rfl, hlt, z⟩, fun y H' hy => ?_⟩
        obtain ⟨rfl, hy⟩ := hy
        have ey := hy vs hv
        rw [hx] at ey
        cases ey
        exact ((ps i _ σ3 M3 hlt (by simp [hlt]) p3).at t3 s3 m3 rx).mono fun σ4 H4 ⟨σ5, M5, t5, s5, m5, q5⟩ => (q5.at t5 s5 m5).mono (fun _ _ z => z) (fun _ _ z => PoR.tr t1 z) (fun _ _ z => PoS.tr t1 z) (fun _ _ z => z)
      · refine .inl ⟨⟨vs, hv, by omega⟩, σ3, M3, t1.trans t3, s3, m3, pe σ3 M3 ?_⟩
        have : i = ws.length := by omega
        subst this; exact p3)
theorem ws_forTup (B : Bd P w K mg base CX N sc fl k X) {body : List Stmt} (h : WE X e σ M fun u M1 => ∃ ws, u = .tup ws ∧ Turns X tg body D ws.length (fun i v => ws[i]? = some v) (fun M => True) σ M1)
    (hs : ∀ x, foldedSetIterable e X.env x = pure x := by intro _; rfl) : WS X (.For tg e body [] pos) σ M D := fun σ' H s m =>
  wS.of (ps_for B.own B.calm (pi_tup wE.pe) wG.pg wSs.pss hs)
    (h.run s m fun v H1 u M1 t1 m1 r1 s1 ⟨ws, hl, Pv, p0, ph, ps, pe⟩ => by
      subst hl
      obtain ⟨a, vs, rfl, h1, h2⟩ := r1.tupv
      refine ⟨a, rfl, ⟨vs, h1⟩, for_tup (xs := vs) (fun i => PoS X.K H1 (Pv i)) ⟨σ, M1, TM.refl, s1, m1, p0⟩ (fun i σ H _ ⟨_, _, t, _⟩ => SqT.mono t h1) (fun i y σ2 H2 hy ⟨σ3, M3, t3, s3, m3, p3⟩ => ?_)
        fun σ2 H2 ⟨σ3, M3, t3, s3, m3, p3⟩ => ⟨σ3, M3, t1.trans t3, s3, m3, pe _ _ (by rw [← h2.length]; exact p3)⟩⟩
      obtain ⟨z, hz, rz⟩ := h2.get' hy
      have hlt := (List.getElem?_eq_some_iff.mp hz).1
      exact ((ps i z σ3 M3 hlt hz p3).at t3 s3 m3 (Rv.mono t3 _ _ rz)).mono fun σ4 H4 ⟨σ5, M5, t5, s5, m5, q5⟩ => (q5.at t5 s5 m5).mono (fun _ _ z => z) (fun _ _ z => PoR.tr t1 z) (fun _ _ z => PoS.tr t1 z) (fun _ _ z => z))
end
end G3

set_option Elab.async false
set_option linter.all false
set_option maxRecDepth 100000
set_option maxHeartbeats 4000000
/-! L3: comprehensions, methods, slices, defs -/
namespace G3
open PySem PySem.Spec L2
section
variable {X : Cx} {a b c e tg : Expr} {es : List Expr} {st : Stmt} {rest : List Stmt} {σ : St3} {M : Mp} {Q : VQ} {D : En} {pos : Pos} {x : Str} {i : Nat}
variable {P : Program} {w : World} {K : PySem.W.Frag} {mg : Str → Option Value} {base : Heap} {CX : CXT} {N : List Str} {sc : Scope} {fl : Bool} {k : Nat}
/-! ### built-in functions and methods by name -/
theorem we_callB {id : String} {p : Pos} (B : Bd P w K mg base CX N sc fl k X) (hg : sc.names.lookup x = some .globalImplicit) (hm : mg x = none) (hv : bootBuiltins x = some (.builtin id)) (h : WA X (e :: es) σ M fun us M1 => OC X (.builtin id) us M1 Q) (hn : x ≠ "__name__" := by decide) (hdb : (x == ("__debug__" : Str)) = false := by decide)
    (he : starEach (e :: es) X.env = (false, eval e X.env) :: starEach es X.env := by rfl) (hpl : (backTo pos (starEach es X.env)).any (·.1) = false := by rfl) : WE X (.Call (.Name x p) (e :: es) [] pos) σ M Q := fun σ' H s m =>
  wE.of (pe_callB wCall.cr (by show X.env.scope.names.lookup _ = _; rw [B.esc]; exact hg) (by rw [B.emg]; exact hm) hv wA.pa hn hdb he hpl) (h.run s m fun vs H1 us M1 t1 m1 r1 s1 q1 => wCall.mono (q1 H1 vs m1 r1) fun _ _ z => PoE.tr t1 z)
theorem we_callTy {id : String} {p : Pos} (B : Bd P w K mg base CX N sc fl k X) (hg : sc.names.lookup x = some .globalImplicit) (hm : mg x = none) (hv : bootBuiltins x = some (.type id)) (h : WA X (e :: es) σ M fun us M1 => OC X (.type id) us M1 Q) (hn : x ≠ "__name__" := by decide) (hdb : (x == ("__debug__" : Str)) = false := by decide)
    (he : starEach (e :: es) X.env = (false, eval e X.env) :: starEach es X.env := by rfl) (hpl : (backTo pos (starEach es X.env)).any (·.1) = false := by rfl) : WE X (.Call (.Name x p) (e :: es) [] pos) σ M Q := fun σ' H s m =>
  wE.of (pe_callTy wCall.cr (by show X.env.scope.names.lookup _ = _; rw [B.esc]; exact hg) (by rw [B.emg]; exact hm) hv wA.pa hn hdb he hpl) (h.run s m fun vs H1 us M1 t1 m1 r1 s1 q1 => wCall.mono (q1 H1 vs m1 r1) fun _ _ z => PoE.tr t1 z)
theorem we_tyn {n : String} (B : Bd P w K mg base CX N sc fl k X) (hg : sc.names.lookup x = some .globalImplicit) (hm : mg x = none) (hv : bootBuiltins x = some (.type n)) (q : Q (.ty n) M) (hn : x ≠ "__name__" := by decide) (hd : (x == ("__debug__" : Str)) = false := by decide) : WE X (.Name x pos) σ M Q :=
  we_ty (by show X.env.scope.names.lookup _ = _; rw [B.esc]; exact hg) (by rw [B.emg]; exact hm) hv q hn hd
/-- a value of the module's, as it stands in the fragment -/
theorem we_gl {v : V} {u : Value} {z : VV} (B : Bd P w K mg base CX N sc fl k X) (hg : sc.names.lookup x = some .globalImplicit) (hm : mg x = some u) (r : RelV v u) (rw : ∀ H, Rv K H v z) (q : Q z M) (hd : (x == ("__debug__" : Str)) = false := by decide) : WE X (.Name x pos) σ M Q :=
  we_glob (by show X.env.scope.names.lookup _ = _; rw [B.esc]; exact hg) (by rw [B.emg]; exact hm) r (by rw [B.eK]; exact rw) q hd
theorem we_glr {ad : Addr} {z : VV} (B : Bd P w K mg base CX N sc fl k X) (hg : sc.names.lookup x = some .globalImplicit) (hm : mg x = some (.ref ad)) (rw : ∀ H, Rv K H (.ref ad) z) (q : Q z M) (hd : (x == ("__debug__" : Str)) = false := by decide) : WE X (.Name x pos) σ M Q :=
  we_gl (v := .ref ad) B hg hm rfl rw q hd
theorem ws_append {apos cpos : Pos} (h : WE X a σ M fun l M1 => ∃ p ws0, l = .ref p ∧ M1 p = some (.lst ws0) ∧ WE X b σ M1 fun y M2 => ∃ ws, M2 p = some (.lst ws) ∧ ws.length < sizeLine ∧ D.nx σ (updM M2 p (.lst (ws ++ [y]))))
    (hs : swapsWith (.Call (.Attribute a "append" apos) [b] [] cpos) none pos.line X.env = pure false := by rfl)
    (hbase : attributeBase a "append" X.env (eval a X.env) = eval a X.env := by rfl)
    (hfew : ((backTo cpos (starEach [b] X.env)).all (fun x => !x.1) && (backToKw cpos (keywordEach [] X.env)).all (fun x => x.1.isSome)
      && decide (([b] : List Expr).length + ([] : List Keyword).length + (if ([] : List Keyword).isEmpty then 0 else 1) < 30)) = true := by rfl)
    (hline : (apos.endLine == cpos.line) = true := by rfl) (hst : starEach [b] X.env = (false, eval b X.env) :: starEach [] X.env := by rfl) (hplain : (backTo cpos (starEach [] X.env)).any (·.1) = false := by rfl) :
    WS X (.Expr (.Call (.Attribute a "append" apos) [b] [] cpos) pos) σ M D := fun σ' H s m =>
  wS.of (ps_expr (pe_bm (e := b) (es := []) PySem.F.plainAttrs_list PySem.F.slot_list_append PySem.F.type_list_append mt_append wE.pe (pa_cons wE.pe pa_nil hst) hbase hfew hline hst hplain) hs)
    (h.run s m fun v H1 l M1 t1 m1 r1 s1 ⟨p, ws0, e1, e2, q1⟩ => by
      subst e1; cases r1
      obtain ⟨vs0, h0, _⟩ := m1 _ _ e2
      exact ⟨.inl ⟨rfl, vs0, SqL.of h0⟩, q1.run s1 m1 fun u H2 y M2 t2 m2 r2 s2 ⟨ws, e3, hl, q⟩ => by
          obtain ⟨vs, h1, h2⟩ := m2 _ _ e3
          exact ⟨p, vs, u, rfl, rfl, h1, by rw [h2.length]; exact hl, σ, _, (t1.trans t2).trans (TM.lst h1), s2.mono (TM.lst h1), m2.putL (TM.lst h1) (.inr ⟨_, e3⟩) (h2.append (.cons r2 .nil)), q⟩⟩)
/-! ### slices -/
def WO (X : Cx) (o : Option Expr) (σ : St3) (M : Mp) (R : Option Int → Mp → Prop) : Prop := match o with
  | none => R none M
  | some e => WE X e σ M fun u M1 => ∃ i, u = .int i ∧ R (some i) M1
def cutW (ws : List VV) (lo hi : Option Int) : List VV := (ws.drop (HT.sIx ws.length 0 lo)).take (HT.sIx ws.length ws.length hi - HT.sIx ws.length 0 lo)
theorem we_slice {lo hi : Option Expr} {p2 : Pos} (h : WE X e σ M fun u M1 => WO X lo σ M1 fun l M2 => WO X hi σ M2 fun r M3 => ∃ ws, Lst M3 u ws ∧ ∀ p, M3 p = none → Q (.ref p) (updM M3 p (.lst (cutW ws l r)))) : WE X (.Subscript e (.Slice lo hi none p2) pos) σ M Q := fun σ' H s m => by
  have po : ∀ (o : Option Expr), ∃ t : TO, PO X o t ∧ ∀ {σ' : St} {H : Hp} {M : Mp} {R : Option Int → Mp → Prop} {Z : Option Int → Hp → Prop}, Slots X.K H σ' σ → SimM X.K M H → WO X o σ M R → (∀ i H1 M1, TM H H1 → SimM X.K M1 H1 → Slots X.K H1 σ' σ → R i M1 → Z i H1) → t σ' H Z := fun o => by
    cases o with
    | none => exact ⟨tNoPart, po_none, fun s m h z => z _ _ _ TM.refl m s h⟩
    | some e => exact ⟨_, po_some wE.pe, fun {σ' H M R Z} s m h z => (show WE X e σ M _ from h).run s m fun v H1 u M1 t1 m1 r1 s1 ⟨i, e, q⟩ => by subst e; cases r1; exact ⟨i, rfl, z _ _ _ t1 m1 s1 q⟩⟩
  obtain ⟨t1, p1, k1⟩ := po lo
  obtain ⟨t2, p2', k2⟩ := po hi
  refine wE.of (pe_slice sl_list wE.pe p1 p2') (h.run s m fun v H1 u M1 tm1 m1 r1 s1 q1 => k1 s1 m1 q1 fun l H2 M2 tm2 m2 s2 q2 => k2 s2 m2 q2 fun r H3 M3 tm3 m3 s3 q3 => ?_)
  obtain ⟨ws, hl, q⟩ := q3
  obtain ⟨ad, vs, rfl, h1, h2⟩ := hl.v m3 (Rv.mono (tm2.trans tm3) _ _ r1)
  refine ⟨ad, vs, rfl, h1, fun p hp => ⟨.ref p, _, ((tm1.trans tm2).trans tm3).trans (TM.fresh hp), m3.putL (TM.fresh hp) (.inl hp) (ws := cutW ws l r) ?_, .ref p, q p (m3.no hp)⟩⟩
  unfold cutV cutW
  rw [h2.length]
  exact (h2.drop _).take _
/-! ### a comprehension: its target a name of its own -/
theorem Bd.blk (B : Bd P w K mg base CX N sc fl k X) (s0 : Shared) (H0 : Hp) (scope : Scope) (C : Addr) (cl : List (Str × Addr)) (fp : List Addr) : Bd P w K mg base CX N (relabel scope X.env) false k (X.blk s0 H0 scope (compEnvC scope cl C X.env) fp) :=
  ⟨B.eprog, B.ew, B.eK, B.emg, B.ebase, B.eN, rfl, B.calm, B.room, B.pas, PassesOwn.never, B.nd, fun h => nomatch h⟩
theorem wipe1 {σ' : St} {i : Nat} {v : V} : wipe ((wipe σ' [i]).set i (some v)) [i] = wipe σ' [i] := by
  show (((σ'.set i none).set i (some v)).set i none) = σ'.set i none
  rw [List.set_set, List.set_set]
/-- what the block of [elt for x in ..] is to do: the new list at D -/
def Comp (P : Program) (w : World) (K : PySem.W.Frag) (mg : Str → Option Value) (base : Heap) (CX : CXT) (N : List Str) (sc' : Scope) (k : Nat) (elt : Expr) (i : Nat) (Q : VQ) (n : Nat) (it : Nat → VV → Prop) (hold : Mp → Prop) (σ : St3) (M : Mp) : Prop := ∀ D, M D = none → ∃ Pv : Nat → Mp → Prop, Pv 0 (updM M D (.lst [])) ∧ (∀ j M, j ≤ n → Pv j M → hold M) ∧
  (∀ Y : Cx, Bd P w K mg base CX N sc' false k Y → ∀ j u M, j < n → it j u → Pv j M → WE Y elt (σ.set i (some u)) M fun y M2 => ∃ acc, M2 D = some (.lst acc) ∧ acc.length < sizeLine ∧ Pv (j + 1) (updM M2 D (.lst (acc ++ [y])))) ∧ ∀ M, Pv n M → Q (.ref D) M
abbrev teB (X : Cx) (scope : Scope) (elt : Expr) : TE := fun σ H R => ∀ s0 H0 C cl fp, wE (X.blk s0 H0 scope (compEnvC scope cl C X.env) fp) elt σ H R
theorem lcL_read (B : Bd P w K mg base CX N sc fl k X) {elt : Expr} {scope : Scope} (sc' : Scope) (hs' : relabel scope X.env = sc') (h : WE X e σ M fun u M1 => ∃ ws, Lst M1 u ws ∧ Comp P w K mg base CX N sc' k elt i Q ws.length (fun j z => ws[j]? = some z) (fun M => Lst M u ws) σ M1)
    {σ' : St} {H : Hp} (s : Slots X.K H σ' σ) (m : SimM X.K M H) {Qv : VK} (hQ : ∀ v H', PoE X.K H Q v H' → Qv v H') : tLc (iList X.K (wE X e)) (gName i) tYes (teB X scope elt) [i] σ' H Qv := by
  refine h.run s m fun v H1 u M1 t1 m1 r1 s1 ⟨ws, hl, q1⟩ => ?_
  obtain ⟨ad, vs, rfl, h1, h2⟩ := hl.v m1 r1
  refine ⟨ad, rfl, ⟨vs, h1⟩, fun D hD => ?_⟩
  obtain ⟨Pv, p0, ph, ps, pe⟩ := q1 D (m1.no hD)
  have tD : TM H1 (upd H1 D (.lst [])) := TM.fresh hD
  refine ⟨fun j n H2 => n = ws.length - j ∧ j ≤ ws.length ∧ ∃ M2, TM H1 H2 ∧ SimM X.K M2 H2 ∧ Pv j M2, ⟨_, rfl, Nat.zero_le _, _, tD, m1.putL tD (.inl hD) .nil, p0⟩, ?_⟩
  rintro j n H2 ⟨rfl, hj, M2, t2, m2, p2⟩
  have hl2 := ph j M2 hj p2
  obtain ⟨ad', vs2, e', h3, h4⟩ := hl2.v m2 (Rv.mono t2 _ _ r1)
  cases e'
  have hlen := h4.length
  by_cases hlt : j < ws.length
  · obtain ⟨y, hy, ry⟩ := h4.get (i := j) (w := ws[j]) (by simp [hlt])
    refine .inr ⟨⟨vs2, y, h3, hy⟩, fun H' => ∃ M', TM H1 H' ∧ SimM X.K M' H' ∧ Pv (j + 1) M', fun H' z => ⟨_, by omega, rfl, hlt, z⟩, fun y' H' hy' => ?_⟩
    obtain ⟨rfl, hy'⟩ := hy'
    have ey := hy' vs2 h3
    rw [hy] at ey
    cases ey
    refine ⟨wipe1, ?_⟩
    show ∀ s0 H0 C cl fp, wE (X.blk s0 H0 scope (compEnvC scope cl C X.env) fp) elt _ _ _
    intro s0 H0 C cl fp
    have Y := B.blk s0 H0 scope C cl fp
    rw [hs'] at Y
    have z := ps _ Y j ws[j] M2 hlt (by simp [hlt]) p2
    have hset : (wipe σ' [i]).set i (some y) = σ'.set i (some y) := by
      show (σ'.set i none).set i (some y) = _
      rw [List.set_set]
    refine (z _ H' (by rw [hset]; exact (s1.mono t2).set i ry) m2).mono fun y3 H3 ⟨w3, M3, t3, m3, r3, acc, e3, l3, p3⟩ => ?_
    obtain ⟨va, h5, h6⟩ := m3 _ _ e3
    exact ⟨va, h5, by rw [h6.length]; exact l3, _, (t2.trans t3).trans (TM.lst h5), m3.putL (TM.lst h5) (.inr ⟨_, e3⟩) (h6.append (.cons r3 .nil)), p3⟩
  · refine .inl ⟨⟨vs2, h3, by omega⟩, hQ _ _ ⟨.ref D, M2, t1.trans t2, m2, .ref D, pe M2 ?_⟩⟩
    have : j = ws.length := by omega
    subst this; exact p2
theorem lcR_read (B : Bd P w K mg base CX N sc fl k X) {elt : Expr} {scope : Scope} (sc' : Scope) (hs' : relabel scope X.env = sc')
    (h : WA X [a] σ M fun us M1 => ∃ j : Int, us = [.int j] ∧ (-(2 ^ 62) ≤ j ∧ j < 2 ^ 62) ∧ Comp P w K mg base CX N sc' k elt i Q j.toNat (fun j z => z = .int j) (fun M => True) σ M1)
    {σ' : St} {H : Hp} (s : Slots X.K H σ' σ) (m : SimM X.K M H) {Qv : VK} (hQ : ∀ v H', PoE X.K H Q v H' → Qv v H') : tLc (iRng1 (wA X [a])) (gName i) tYes (teB X scope elt) [i] σ' H Qv := by
  refine h.run s m fun v H1 u M1 t1 m1 r1 s1 ⟨jj, e, ⟨l1, l2⟩, q1⟩ => ?_
  subst e
  cases r1 with | cons r1 r2 =>
  cases r1; cases r2
  refine ⟨jj, rfl, l1, l2, fun D hD => ?_⟩
  obtain ⟨Pv, p0, ph, ps, pe⟩ := q1 D (m1.no hD)
  have tD : TM H1 (upd H1 D (.lst [])) := TM.fresh hD
  refine ⟨fun j n H2 => n = jj.toNat - j ∧ j ≤ jj.toNat ∧ ∃ M2, TM H1 H2 ∧ SimM X.K M2 H2 ∧ Pv j M2, ⟨_, rfl, Nat.zero_le _, _, tD, m1.putL tD (.inl hD) .nil, p0⟩, ?_⟩
  rintro j n H2 ⟨rfl, hj, M2, t2, m2, p2⟩
  by_cases hlt : j < jj.toNat
  · refine .inr ⟨hlt, fun H' => ∃ M', TM H1 H' ∧ SimM X.K M' H' ∧ Pv (j + 1) M', fun H' z => ⟨_, by omega, rfl, hlt, z⟩, fun y' H' hy' => ?_⟩
    obtain ⟨rfl, rfl⟩ := hy'
    refine ⟨wipe1, ?_⟩
    show ∀ s0 H0 C cl fp, wE (X.blk s0 H0 scope (compEnvC scope cl C X.env) fp) elt _ _ _
    intro s0 H0 C cl fp
    have Y := B.blk s0 H0 scope C cl fp
    rw [hs'] at Y
    have z := ps _ Y j _ M2 hlt rfl p2
    have hset : (wipe σ' [i]).set i (some (V.int (0 + (j : Int)))) = σ'.set i (some (V.int (0 + (j : Int)))) := by
      show (σ'.set i none).set i _ = _
      rw [List.set_set]
    refine (z _ H' (by rw [hset]; exact (s1.mono t2).set i (by rw [Int.zero_add]; exact .int _)) m2).mono fun y3 H3 ⟨w3, M3, t3, m3, r3, acc, e3, l3, p3⟩ => ?_
    obtain ⟨va, h5, h6⟩ := m3 _ _ e3
    exact ⟨va, h5, by rw [h6.length]; exact l3, _, (t2.trans t3).trans (TM.lst h5), m3.putL (TM.lst h5) (.inr ⟨_, e3⟩) (h6.append (.cons r3 .nil)), p3⟩
  · refine .inl ⟨(by show jj.toNat ≤ j; omega), hQ _ _ ⟨.ref D, M2, t1.trans t2, m2, .ref D, pe M2 ?_⟩⟩
    have : j = jj.toNat := by omega
    subst this; exact p2
/-- an environment of that scope: what a rule asks of the environment alone by its scope -/
def cenv (sc : Scope) : Env := PyProof.Rows.envOfC "" sc 0 0 .none
theorem swStores_of {ts : List Expr} {v : Expr} {env env' : Env} (h : env.scope = env'.scope) : swappedStores ts v env = swappedStores ts v env' := by
  obtain ⟨s, _, _, _, _, _, _, _, _⟩ := env
  obtain ⟨s', _, _, _, _, _, _, _, _⟩ := env'
  have e : s = s' := h
  subst e
  rfl
theorem swWith_of {v : Expr} {t : Option Expr} {l : Nat} {env env' : Env} (h : env.scope = env'.scope) : swapsWith v t l env = swapsWith v t l env' := by
  obtain ⟨s, _, _, _, _, _, _, _, _⟩ := env
  obtain ⟨s', _, _, _, _, _, _, _, _⟩ := env'
  have e : s = s' := h
  subst e
  rfl
theorem relabel_of {scope : Scope} {env env' : Env} (h : env.scope = env'.scope) : relabel scope env = relabel scope env' := by
  obtain ⟨s, _, _, _, _, _, _, _, _⟩ := env
  obtain ⟨s', _, _, _, _, _, _, _, _⟩ := env'
  have e : s = s' := h
  subst e
  rfl
/-- the scope of a comprehension's block in a def of the scope sc -/
abbrev scBlk (scope sc : Scope) : Scope := relabel scope (cenv sc)
theorem Bd.rel (B : Bd P w K mg base CX N sc fl k X) (scope : Scope) : relabel scope X.env = scBlk scope sc := relabel_of (by rw [B.esc]; rfl)
section
variable {elt : Expr} {scope : Scope} {px : Pos}
theorem Bd.pgB (B : Bd P w K mg base CX N sc fl k X) (hi : At N i x) (hx : (scBlk scope sc).names.lookup x = some .local) (s0 : Shared) (H0 : Hp) (C : Addr) (cl : List (Str × Addr)) (fp : List Addr) : PG (X.blk s0 H0 scope (compEnvC scope cl C X.env) fp) (.Name x px) (gName i) :=
  pg_name (i := i) (by show X.N.Nodup; rw [B.eN]; exact B.nd) (by show X.N[i]? = _; rw [B.eN]; exact hi.get) (.inl (by show (relabel scope X.env).names.lookup x = _; rw [B.rel]; exact hx)) (.inr (by show (relabel scope X.env).names.lookup x = _; rw [B.rel]; exact hx))
theorem we_lcLst (B : Bd P w K mg base CX N sc fl k X) (hi : At N i x) (hok : blkC N sc scope [(x, i)] = true) (hx : (scBlk scope sc).names.lookup x = some .local)
    (h : WE X e σ M fun u M1 => ∃ ws, Lst M1 u ws ∧ Comp P w K mg base CX N (scBlk scope sc) k elt i Q ws.length (fun j z => ws[j]? = some z) (fun M => Lst M u ws) σ M1)
    (hs : ∀ x, foldedSetIterable e X.env x = pure x := by intro _; rfl) : WE X (.ListComp elt [⟨.Name x px, e, [], 0⟩] scope pos) σ M Q := fun σ' H s m =>
  wE.of (pe_lc (own := [(x, i)]) (tt := tYes) (g := gName i) (te := teB X scope elt) B.calm (by rw [B.eN]; exact B.nd) (pi_list wE.pe) (by rw [B.eN, B.esc]; exact blkOk_by hok)
    (B.pgB hi hx) (fun _ _ _ _ _ => pts_nil) (fun s0 H0 C cl fp => ⟨fun pins s σ H R I h => h s0 H0 C cl fp pins s I⟩) hs) (lcL_read B _ (B.rel scope) h s m fun _ _ z => z)
theorem we_lcRange1 (B : Bd P w K mg base CX N sc fl k X) {p pos' : Pos} (hi : At N i x) (hok : blkC N sc scope [(x, i)] = true) (hx : (scBlk scope sc).names.lookup x = some .local) (hg : sc.names.lookup ("range" : Str) = some .globalImplicit) (hm : mg "range" = none)
    (h : WA X [a] σ M fun us M1 => ∃ j : Int, us = [.int j] ∧ (-(2 ^ 62) ≤ j ∧ j < 2 ^ 62) ∧ Comp P w K mg base CX N (scBlk scope sc) k elt i Q j.toNat (fun j z => z = .int j) (fun M => True) σ M1)
    (hsp : starEach [a] X.env = [(false, eval a X.env)] := by rfl) (hs : ∀ x, foldedSetIterable (.Call (.Name "range" p) [a] [] pos') X.env x = pure x := by intro _; rfl) : WE X (.ListComp elt [⟨.Name x px, .Call (.Name "range" p) [a] [] pos', [], 0⟩] scope pos) σ M Q := fun σ' H s m =>
  wE.of (pe_lc (own := [(x, i)]) (tt := tYes) (g := gName i) (te := teB X scope elt) B.calm (by rw [B.eN]; exact B.nd) (pi_range1 (by show X.env.scope.names.lookup _ = _; rw [B.esc]; exact hg) (by rw [B.emg]; exact hm) wA.pa hsp) (by rw [B.eN, B.esc]; exact blkOk_by hok)
    (B.pgB hi hx) (fun _ _ _ _ _ => pts_nil) (fun s0 H0 C cl fp => ⟨fun pins s σ H R I h => h s0 H0 C cl fp pins s I⟩) hs) (lcR_read B _ (B.rel scope) h s m fun _ _ z => z)
/-- y = [..], y a local name on the same line -/
theorem ws_setLcLst (B : Bd P w K mg base CX N sc fl k X) {y : Str} {py : Pos} {iy : Nat} (hiy : At N iy y) (hyl : sc.names.lookup y = some .local) (hsw : swapsWith (.ListComp elt [⟨.Name x px, e, [], 0⟩] scope pos) (some (.Name y py)) spos.line (cenv sc) = pure true) (hi : At N i x) (hok : blkC N sc scope [(x, i)] = true) (hx : (scBlk scope sc).names.lookup x = some .local)
    (h : WE X e σ M fun u M1 => ∃ ws, Lst M1 u ws ∧ Comp P w K mg base CX N (scBlk scope sc) k elt i (fun u M1 => D.nx (σ.set iy (some u)) M1) ws.length (fun j z => ws[j]? = some z) (fun M => Lst M u ws) σ M1)
    (hs : ∀ x, foldedSetIterable e X.env x = pure x := by intro _; rfl) : WS X (.Assign [.Name y py] (.ListComp elt [⟨.Name x px, e, [], 0⟩] scope pos) spos) σ M D := fun σ' H s m =>
  wS.of (ps_setLc (i := iy) (own := [(x, i)]) (tt := tYes) (g := gName i) (te := teB X scope elt) B.calm (by rw [B.eN]; exact B.nd) (by rw [B.eN]; exact hiy.get) (by rw [B.esc]; exact hyl) (by rw [swWith_of (env' := cenv sc) (by rw [B.esc]; rfl)]; exact hsw) (pi_list wE.pe) (by rw [B.eN, B.esc]; exact blkOk_by hok)
    (B.pgB hi hx) (fun _ _ _ _ _ => pts_nil) (fun s0 H0 C cl fp => ⟨fun pins s σ H R I h => h s0 H0 C cl fp pins s I⟩) hs) (lcL_read B _ (B.rel scope) h s m fun v H' ⟨u, M', t, m', r, q⟩ => ⟨_, M', t, (s.mono t).set iy r, m', q⟩)
theorem ws_setLcRange1 (B : Bd P w K mg base CX N sc fl k X) {p pos' : Pos} {y : Str} {py : Pos} {iy : Nat} (hiy : At N iy y) (hyl : sc.names.lookup y = some .local) (hsw : swapsWith (.ListComp elt [⟨.Name x px, .Call (.Name "range" p) [a] [] pos', [], 0⟩] scope pos) (some (.Name y py)) spos.line (cenv sc) = pure true) (hi : At N i x) (hok : blkC N sc scope [(x, i)] = true) (hx : (scBlk scope sc).names.lookup x = some .local)
    (hg : sc.names.lookup ("range" : Str) = some .globalImplicit) (hm : mg "range" = none)
    (h : WA X [a] σ M fun us M1 => ∃ j : Int, us = [.int j] ∧ (-(2 ^ 62) ≤ j ∧ j < 2 ^ 62) ∧ Comp P w K mg base CX N (scBlk scope sc) k elt i (fun u M1 => D.nx (σ.set iy (some u)) M1) j.toNat (fun j z => z = .int j) (fun M => True) σ M1)
    (hsp : starEach [a] X.env = [(false, eval a X.env)] := by rfl) (hs : ∀ x, foldedSetIterable (.Call (.Name "range" p) [a] [] pos') X.env x = pure x := by intro _; rfl) : WS X (.Assign [.Name y py] (.ListComp elt [⟨.Name x px, .Call (.Name "range" p) [a] [] pos', [], 0⟩] scope pos) spos) σ M D := fun σ' H s m =>
  wS.of (ps_setLc (i := iy) (own := [(x, i)]) (tt := tYes) (g := gName i) (te := teB X scope elt) B.calm (by rw [B.eN]; exact B.nd) (by rw [B.eN]; exact hiy.get) (by rw [B.esc]; exact hyl) (by rw [swWith_of (env' := cenv sc) (by rw [B.esc]; rfl)]; exact hsw) (pi_range1 (by show X.env.scope.names.lookup _ = _; rw [B.esc]; exact hg) (by rw [B.emg]; exact hm) wA.pa hsp) (by rw [B.eN, B.esc]; exact blkOk_by hok)
    (B.pgB hi hx) (fun _ _ _ _ _ => pts_nil) (fun s0 H0 C cl fp => ⟨fun pins s σ H R I h => h s0 H0 C cl fp pins s I⟩) hs) (lcR_read B _ (B.rel scope) h s m fun v H' ⟨u, M', t, m', r, q⟩ => ⟨_, M', t, (s.mono t).set iy r, m', q⟩)
/-- a, b = c, d of two local names, the stores from the right -/
theorem ws_par2 (B : Bd P w K mg base CX N sc fl k X) {j : Nat} {y : Str} {px py pt : Pos} {kt k2 pt2} (hi : At N i x) (hj : At N j y) (hij : (i == j) = false) (hx : sc.names.lookup x = some .local) (hy : sc.names.lookup y = some .local)
    (hw : swappedStores [.Tuple [.Name x px, .Name y py] kt pt] (.Tuple [a, b] k2 pt2) (cenv sc) = pure (some [x, y]))
    (h : WA X [a, b] σ M fun us M1 => ∃ u v, us = [u, v] ∧ D.nx ((σ.set i (some u)).set j (some v)) M1)
    (hs : swapsWithSole [.Tuple [.Name x px, .Name y py] kt pt] (.Tuple [a, b] k2 pt2) pos.line X.env = pure false := by rfl) :
    WS X (.Assign [.Tuple [.Name x px, .Name y py] kt pt] (.Tuple [a, b] k2 pt2) pos) σ M D :=
  ws_par B hi hj (by simpa using hij) hx hy h (fun e => (swStores_of (env' := cenv sc) (by rw [e]; rfl)).trans hw) hs
/-- .. of names that are not both local: through the tuple -/
theorem ws_asgT (B : Bd P w K mg base CX N sc fl k X) (hw : swappedStores [tg] e (cenv sc) = pure none) (h : WE X e σ M fun u M1 => WG X tg u σ M1 D.nx) (hs : swapsWithSole [tg] e pos.line X.env = pure false := by rfl)
    (h1 : (assignEach [tg] X.env).map (·.2) = [assign tg X.env] := by rfl) : WS X (.Assign [tg] e pos) σ M D :=
  ws_asg h hs ((swStores_of (env' := cenv sc) (by rw [B.esc]; rfl)).trans hw) h1
end
/-! ### a def -/
theorem df_of {y qual : Str} {st : Stmt} {f : Addr} {fd : FuncData} {ps : List Str} (F : FunD K y qual (defArgs st) (defBody st) (defScope st) [] [] f fd) (hmg : mg x = some (.ref f)) (S : FnScope N ps (defScope st)) (bi : ∀ (s : Shared) (us : List Value), us.length = ps.length → BindsTo s fd ⟨us, []⟩ (ps.zip us)) (hpas : ∀ Y : Cx, Y.prog = P → Y.w = w → Passes CX Y E0)
    {sp : Sp3} (len : ∀ ws M Q, sp ws M Q → ws.length = ps.length)
    (body : ∀ X : Cx, Bd P w K mg base CX N (defScope st) true k X → ∀ ws M Q, sp ws M Q → WSs X (defBody st) (ws.map some ++ List.replicate (N.length - ws.length) none) M
      { nx := fun _ M' => ∃ M0, LeM M0 M' ∧ Q .non M0, rt := fun u M' => ∃ M0, LeM M0 M' ∧ Q u M0 }) : Df P w K mg base CX (k + 1) x ps sp := by
  obtain ⟨oc, od, dV, kV, doc, pm, an, cdv, ct, osl, rfl, lk, hcd, _, _⟩ := F.ex
  refine ⟨f, _, hmg, F.kp, bi, fn_of lk hcd S (fun vs H Q E ⟨ws, M, Q3, _, r, h, _⟩ => by rw [r.length]; exact len ws M Q3 h) fun A outer s H vs Q E hr ⟨ws, M, Q3, m, r, h, hq⟩ => ?_, oc, od, osl, lk⟩
  have B : Bd P w K mg base CX N (defScope st) true k (cxOf CX P w K mg base N qual (defScope st) f cdv A outer s H E).nox :=
    ⟨rfl, rfl, rfl, rfl, rfl, rfl, rfl, rfl, hr, hpas, PassesOwn.never, S.nd, fun _ _ => rfl⟩
  have b := body _ B ws M Q3 h (L2.start N vs) H (Slots.start r N) m
  refine ⟨wSs _ (defBody st), wSs.pss.nox, b.mono ?_ ?_ ?_ ?_⟩
  · rintro σ' H' ⟨_, M', t, _, m', M0, l, q⟩
    exact hq _ _ _ _ q t (m'.sub l) .non
  · rintro v H' ⟨u, M', t, m', rv, M0, l, q⟩
    exact hq _ _ _ _ q t (m'.sub l) rv
  · rintro σ' H' ⟨_, _, _, _, _, q⟩; exact q.elim
  · rintro σ' H' ⟨_, _, _, _, _, q⟩; exact q.elim
end
end G3

set_option Elab.async false
set_option linter.all false
set_option maxRecDepth 100000
set_option maxHeartbeats 4000000
/-! L3: the text's defs under one head; branches -/
namespace G3
open PySem PySem.Spec L2
theorem ite_dec {p A B : Prop} [Decidable p] (h1 : p → A) (h2 : ¬ p → B) : if decide p = true then A else B := by
  by_cases h : p
  · simp only [h, decide_true, if_true]; exact h1 h
  · simp only [h, decide_false]; exact h2 h
theorem ite_ndec {p A B : Prop} [Decidable p] (h1 : ¬ p → A) (h2 : p → B) : if (!decide p) = true then A else B := by
  by_cases h : p
  · simp only [h, decide_true]; exact h2 h
  · simp only [h, decide_false]; exact h1 h
theorem ite_bl {b : Bool} {A B : Prop} (h1 : b = true → A) (h2 : b = false → B) : if b = true then A else B := by
  cases b
  · exact iteF (h2 rfl)
  · exact iteT (h1 rfl)
theorem ite_nbl {b : Bool} {A B : Prop} (h1 : b = false → A) (h2 : b = true → B) : if (!b) = true then A else B := by
  cases b
  · exact iteT (h1 rfl)
  · exact iteF (h2 rfl)
theorem ite_yes {c A B : Prop} [Decidable c] (h : c) (a : A) : if c then A else B := by rw [if_pos h]; exact a
theorem ite_no {c A B : Prop} [Decidable c] (h : ¬ c) (b : B) : if c then A else B := by rw [if_neg h]; exact b
section
variable {X : Cx} {a b c e tg : Expr} {es : List Expr} {σ : St3} {M : Mp} {Q : VQ} {D : En} {pos : Pos} {x : Str} {i : Nat}
variable {P : Program} {w : World} {K : PySem.W.Frag} {mg : Str → Option Value} {base : Heap} {CX : CXT} {N : List Str} {sc : Scope} {fl : Bool} {k : Nat}
def Fgt (Q : VQ) : VQ := fun u M' => ∃ M0, LeM M0 M' ∧ Q u M0
theorem we_forget (h : WE X e σ M (Fgt Q)) : WE X e σ M Q := fun σ' H s m =>
  (h σ' H s m).mono fun _ _ ⟨u, M', t, m', r, M0, l, q⟩ => ⟨u, M0, t, m'.sub l, r, q⟩
theorem ws_forget {st : Stmt} (h : WS X st σ M { D with nx := fun σ' M' => ∃ M0, LeM M0 M' ∧ D.nx σ' M0, rt := Fgt D.rt }) : WS X st σ M D := fun σ' H s m =>
  (h σ' H s m).mono (fun _ _ ⟨u, M', t, s', m', M0, l, q⟩ => ⟨u, M0, t, s', m'.sub l, q⟩) (fun _ _ ⟨u, M', t, m', r, M0, l, q⟩ => ⟨u, M0, t, m'.sub l, r, q⟩) (fun _ _ z => z) fun _ _ z => z
theorem LeM.upd {M M' : Mp} {p : Addr} {o : MO} (h : LeM M M') : LeM (updM M p o) (updM M' p o) := fun a u e => by
  by_cases ha : a = p
  · subst ha; rw [updM_same] at e ⊢; exact e
  · rw [updM_ne ha] at e ⊢; exact h a u e
theorem Lst.le {M M' : Mp} {u : VV} {ws : List VV} (h : Lst M u ws) (l : LeM M M') : Lst M' u ws := by
  cases h with
  | ref e => exact .ref (l _ _ e)
  | seq => exact .seq _
theorem LeM.new {M : Mp} {p : Addr} {o : MO} (n : M p = none) : LeM M (updM M p o) := LeM.put LeM.refl n
theorem comp_pure {α : Type} {elt : Expr} {sc' : Scope} {xs : List α} {v f : α → VV} {u : VV} (hl : Lst M u (xs.map v)) (hz : xs.length ≤ sizeLine)
    (he : ∀ Y : Cx, Bd P w K mg base CX N sc' false k Y → ∀ (j : Nat) (z : α) M', xs[j]? = some z → LeM M M' → WE Y elt (σ.set i (some (v z))) M' fun y M2 => y = f z ∧ LeM M' M2)
    (q : ∀ D, M D = none → Q (.ref D) (updM M D (.lst (xs.map f)))) : Comp P w K mg base CX N sc' k elt i (Fgt Q) (xs.map v).length (fun j z => (xs.map v)[j]? = some z) (fun M => Lst M u (xs.map v)) σ M := fun D hD => by
  refine ⟨fun j M' => LeM (updM M D (.lst ((xs.take j).map f))) M', LeM.refl, fun j M' _ h => hl.le ((LeM.new hD).trans h), fun Y B j z M' hj hz' h => ?_, fun M' h => ⟨_, h, ?_⟩⟩
  · have hz2 : (xs.map v)[j]? = some z := hz'
    clear hz'
    rw [List.getElem?_map] at hz2
    rw [List.length_map] at hj
    have hx : xs[j]? = some xs[j] := by simp [hj]
    rw [hx] at hz2
    cases hz2
    refine (he Y B j _ M' hx ((LeM.new hD).trans h)).mono fun y M2 ⟨e, l⟩ => ⟨_, l _ _ (h D _ updM_same), ?_, ?_⟩
    · rw [List.length_map, List.length_take]; omega
    · subst e
      have e1 : (xs.take (j + 1)).map f = (xs.take j).map f ++ [f xs[j]] := by
        rw [List.take_add_one, hx, List.map_append]; rfl
      have e2 := LeM.upd (p := D) (o := .lst ((xs.take (j + 1)).map f)) (h.trans l)
      rw [updM_updM] at e2
      rw [e1] at e2 ⊢
      exact e2
  · rw [List.length_map, List.take_length]; exact q D hD
/-- .. as it is wanted of a statement: what is wanted stays true of a greater heap -/
theorem comp_pureS {α : Type} {elt : Expr} {sc' : Scope} {xs : List α} {v f : α → VV} {u : VV} {R : VQ} (hl : Lst M u (xs.map v)) (hz : xs.length ≤ sizeLine)
    (he : ∀ Y : Cx, Bd P w K mg base CX N sc' false k Y → ∀ (j : Nat) (z : α) M', xs[j]? = some z → LeM M M' → WE Y elt (σ.set i (some (v z))) M' fun y M2 => y = f z ∧ LeM M' M2)
    (q : ∀ D, M D = none → Q (.ref D) (updM M D (.lst (xs.map f)))) (hR : ∀ u M', Fgt Q u M' → R u M' := by exact fun _ _ h => h) : Comp P w K mg base CX N sc' k elt i R (xs.map v).length (fun j z => (xs.map v)[j]? = some z) (fun M => Lst M u (xs.map v)) σ M := fun D hD => by
  obtain ⟨Pv, p0, ph, ps, pe⟩ := comp_pure hl hz he q D hD
  exact ⟨Pv, p0, ph, ps, fun M' h => hR _ _ (pe M' h)⟩
theorem comp_pureR {elt : Expr} {sc' : Scope} {n : Nat} {f : Nat → VV} (hz : n ≤ sizeLine)
    (he : ∀ Y : Cx, Bd P w K mg base CX N sc' false k Y → ∀ (j : Nat) M', j < n → LeM M M' → WE Y elt (σ.set i (some (.int j))) M' fun y M2 => y = f j ∧ LeM M' M2)
    (q : ∀ D, M D = none → Q (.ref D) (updM M D (.lst ((List.range n).map f)))) : Comp P w K mg base CX N sc' k elt i (Fgt Q) n (fun j z => z = .int j) (fun _ => True) σ M := fun D hD => by
  refine ⟨fun j M' => LeM (updM M D (.lst ((List.range j).map f))) M', LeM.refl, fun j M' _ h => trivial, fun Y B j z M' hj hz' h => ?_, fun M' h => ⟨_, h, q D hD⟩⟩
  subst hz'
  refine (he Y B j M' hj ((LeM.new hD).trans h)).mono fun y M2 ⟨e, l⟩ => ⟨_, l _ _ (h D _ updM_same), ?_, ?_⟩
  · rw [List.length_map, List.length_range]; omega
  · subst e
    have e1 : (List.range (j + 1)).map f = (List.range j).map f ++ [f j] := by
      rw [List.range_succ, List.map_append]; rfl
    have e2 := LeM.upd (p := D) (o := .lst ((List.range (j + 1)).map f)) (h.trans l)
    rw [updM_updM] at e2
    rw [e1] at e2 ⊢
    exact e2
theorem cut_nat {ws : List VV} {i j : Int} {a b : Nat} (hi : i = a) (hj : j = b) (ha : a ≤ ws.length) (hb : b ≤ ws.length) : cutW ws (some i) (some j) = (ws.drop a).take (b - a) := by
  subst hi hj
  unfold cutW
  rw [HT.sIx_nat, HT.sIx_nat, Nat.min_eq_left ha, Nat.min_eq_left hb]
theorem cut_to {ws : List VV} {j : Int} {b : Nat} (hj : j = b) : cutW ws none (some j) = ws.take b := by
  subst hj
  unfold cutW
  rw [HT.sIx_nat, HT.sIx_none, List.drop_zero, Nat.sub_zero]
  rcases Nat.le_total b ws.length with h | h
  · rw [Nat.min_eq_left h]
  · rw [Nat.min_eq_right h, List.take_length, List.take_of_length_le h]
theorem cut_from {ws : List VV} {i : Int} {a : Nat} (hi : i = a) : cutW ws (some i) none = ws.drop a := by
  subst hi
  unfold cutW
  rw [HT.sIx_nat, HT.sIx_none]
  rcases Nat.le_total a ws.length with h | h
  · rw [Nat.min_eq_left h, List.take_of_length_le (by rw [List.length_drop]; omega)]
  · rw [Nat.min_eq_right h, List.drop_length, List.drop_of_length_le h, List.take_nil]
end
/-- a law's text, its fragment, its module -/
structure Ev where
  P : Program
  w : World
  K : PySem.W.Frag
  mg : Str → Option Value
  base : Heap
  CX : CXT
  hp : ∀ Y : Cx, Y.prog = P → Y.w = w → Passes CX Y E0
abbrev Ev.df (E : Ev) (k : Nat) (x : Str) (ps : List Str) (sp : Sp3) : Prop := Df E.P E.w E.K E.mg E.base E.CX k x ps sp
abbrev Ev.bd (E : Ev) (N : List Str) (sc : Scope) (fl : Bool) (k : Nat) (X : Cx) : Prop := Bd E.P E.w E.K E.mg E.base E.CX N sc fl k X
/-- the def stands -/
def Tx (E : Ev) (x : Str) (st : Stmt) (ps : List Str) : Prop := ∃ f fd, FunD E.K x x (defArgs st) (defBody st) (defScope st) [] [] f fd ∧ E.mg x = some (.ref f) ∧ ∀ (s : Shared) (us : List Value), us.length = ps.length → BindsTo s fd ⟨us, []⟩ (ps.zip us)
theorem Tx.df {E : Ev} {x : Str} {st : Stmt} {ps : List Str} (T : Tx E x st ps) (N : List Str) {k : Nat} {sp : Sp3} (S : FnScope N ps (defScope st)) (len : ∀ ws M Q, sp ws M Q → ws.length = ps.length)
    (body : ∀ X : Cx, E.bd N (defScope st) true k X → ∀ ws M Q, sp ws M Q → WSs X (defBody st) (ws.map some ++ List.replicate (N.length - ws.length) none) M
      { nx := fun _ M' => ∃ M0, LeM M0 M' ∧ Q .non M0, rt := fun u M' => ∃ M0, LeM M0 M' ∧ Q u M0 }) : E.df (k + 1) x ps sp := by
  obtain ⟨f, fd, F, hm, bi⟩ := T
  exact df_of F hm S bi E.hp len body
/-- a def's datum for the head -/
def dD (x : Str) (st : Stmt) : He.DefD := ⟨(x, none), x, x, defArgs st, defBody st, defScope st, [], []⟩
theorem Tx.mk {E : Ev} {h : Heap} {fa : List He.Fa} {fn : List He.DefD} (X : E.K.In h) (G : h.Ns mainGlobals E.mg) (c : He.SaysD fa fn E.K) (i j : Nat) {x : Str} {st : Stmt} {ps : List Str} (hd : fn[i]? = some (dD x st)) (hg : fa[j]? = some (.glo x))
    (hb : ∀ (kV doc pm : Value) (an : Option Addr) (cdv ct : Value) (us : List Value), us.length = ps.length → bindArgs (PySem.W.fnOf x x (defArgs st) (defBody st) (defScope st) .none kV doc pm an cdv ct) ⟨us, []⟩ = pure (ps.zip us)) : Tx E x st ps := by
  obtain ⟨fd, F⟩ := c.def_ i hd
  exact ⟨_, fd, F, He.glo_ok X G (c.fact j hg), fun s us hl => FunD.bindsA (ps := ps) F hb s us hl⟩
theorem free_mk {E : Ev} {h : Heap} {fa : List He.Fa} {fn : List He.DefD} (X : E.K.In h) (G : h.Ns mainGlobals E.mg) (c : He.SaysD fa fn E.K) (j : Nat) {x : Str} (hg : fa[j]? = some (.free x)) : E.mg x = none := He.free_ok X G (c.fact j hg)
theorem tup_mk {E : Ev} {h : Heap} {fa : List He.Fa} {fn : List He.DefD} (X : E.K.In h) (G : h.Ns mainGlobals E.mg) (c : He.SaysD fa fn E.K) (j : Nat) {x : Str} (hg : fa[j]? = some (.glo x)) {vs : List He.Dv} {ws : List VV} (ht : He.tupB E.K x vs = true) (hr : ∀ H, Rvs E.K H (vs.map (He.Dv.v E.K)) ws) :
    ∃ a, E.mg x = some (.ref a) ∧ ∀ H, Rv E.K H (.ref a) (.tup ws) :=
  ⟨_, He.glo_ok X G (c.fact j hg), fun H => .tup (He.tupB_ok ht H) (hr H)⟩
/-- the law's def, for the end: what is handed in and what comes out -/
def spTop : Sp3 := fun ws M Q => ∃ (w : VV) (ns : List Int), ws = [w] ∧ Lst M w (ns.map .int) ∧ (∀ a, M a ≠ some .bag) ∧ ∀ M', Q (.bl true) M'
theorem end_of {E : Ev} {k : Nat} {x y : Str} (D : E.df k x [y] spTop) {fa : Addr} (hfa : E.mg x = some (.ref fa)) : ∃ fd : FuncData, (∀ (s : Shared) (u : Value), BindsTo s fd ⟨[u], []⟩ [(y, u)]) ∧ FnOk E.P E.w E.K E.mg E.base E.CX k fa fd [y] (toSp E.K spTop) ∧ ∃ oc od osl, E.K.lookup fa = some ⟨oc, od, .func fd, osl⟩ := by
  obtain ⟨f, fd, h1, h2, h3, h4, h5⟩ := D
  have e := hfa.symm.trans h1
  cases e
  exact ⟨fd, fun s u => h3 s [u] rfl, h4, h5⟩
theorem end_sp {K : PySem.W.Frag} {H : Hp} {a : Addr} {ns : List Int} (hS : SqL K H a (ns.map V.int)) : toSp K spTop [.ref a] H (fun v _ => v = .bl true) fun _ _ _ => False := by
  have fin : ∀ (w : VV) (M : Mp), SimM K M H → Rv K H (.ref a) w → Lst M w (ns.map .int) → (∀ a, M a ≠ some .bag) → toSp K spTop [.ref a] H (fun v _ => v = .bl true) fun _ _ _ => False := fun w M m r hl nb =>
    ⟨[w], M, fun u _ => u = .bl true, m, .cons r .nil, ⟨w, ns, rfl, hl, nb, fun _ => rfl⟩, fun u M' v H' q _ _ rv => by subst q; cases rv; rfl⟩
  rcases hS with (h | h) | h
  · refine fin (.ref a) (fun b => if b = a then some (.lst (ns.map .int)) else none) (fun b o e => ?_) (.ref a) (.ref (if_pos rfl)) fun b z => ?_
    · by_cases hb : b = a
      · subst hb
        have e2 : some (MO.lst (ns.map VV.int)) = some o := by simpa using e
        cases e2
        exact ⟨_, h, Rvs.of_ints⟩
      · simp [hb] at e
    · by_cases hb : b = a
      · simp [hb] at z
      · simp [hb] at z
  · exact fin (.seq (ns.map .int)) (fun _ => none) (fun b o e => by cases e) (.seq (.inl h) Rvs.of_ints) (.seq _) fun b z => by cases z
  · exact fin (.seq (ns.map .int)) (fun _ => none) (fun b o e => by cases e) (.seq (.inr h) Rvs.of_ints) (.seq _) fun b z => by cases z
theorem SaysT_d {fa : List He.Fa} {fn : List He.DefD} {ts : List He.Tab} {w : World} {K : PySem.W.Frag} (c : He.SaysT fa fn ts w K) : He.SaysD fa fn K := congrArg (fun z : He.AlT => z.1) c
/-- the promise says how many arguments -/
theorem len_of {α : Sort _} {n : Nat} {ws : List VV} {p : List VV} {q : Prop} (h : ws = p ∧ q) (e : p.length = n) : ws.length = n := by rw [h.1]; exact e
theorem bb_abs : bootBuiltins "abs" = some (.builtin "abs") := by decide +kernel
theorem bb_len : bootBuiltins "len" = some (.builtin "len") := by decide +kernel
theorem bb_all : bootBuiltins "all" = some (.builtin "all") := by decide +kernel
theorem bb_any : bootBuiltins "any" = some (.builtin "any") := by decide +kernel
theorem bb_isi : bootBuiltins "isinstance" = some (.builtin "isinstance") := by decide +kernel
theorem bb_max : bootBuiltins "max" = some (.builtin "max") := by decide +kernel
theorem bb_min : bootBuiltins "min" = some (.builtin "min") := by decide +kernel
theorem bb_list : bootBuiltins "list" = some (.type "list") := by decide +kernel
theorem bb_int : bootBuiltins "int" = some (.type "int") := by decide +kernel
theorem bb_bool : bootBuiltins "bool" = some (.type "bool") := by decide +kernel
theorem bb_str : bootBuiltins "str" = some (.type "str") := by decide +kernel
theorem bb_dict : bootBuiltins "dict" = some (.type "dict") := by decide +kernel
theorem bb_tuple : bootBuiltins "tuple" = some (.type "tuple") := by decide +kernel
end G3

set_option Elab.async false
set_option linter.all false
set_option maxRecDepth 100000
set_option maxHeartbeats 4000000
/-! ratios in plain Lean -/
namespace G3
open PySem
abbrev Rt := Int × Int
/-- a ratio in lowest terms -/
def nrm (a b : Int) : Rt := if b < 0 then (a.fdiv (-(Int.gcd a b : Int)), b.fdiv (-(Int.gcd a b : Int))) else (a.fdiv (Int.gcd a b), b.fdiv (Int.gcd a b))
abbrev vr (q : Rt) : VV := .tup [.int q.1, .int q.2]
def rsum (p q : Rt) : Rt := nrm (p.1 * q.2 + q.1 * p.2) (p.2 * q.2)
def rdif (p q : Rt) : Rt := nrm (p.1 * q.2 - q.1 * p.2) (p.2 * q.2)
def rprod (p q : Rt) : Rt := nrm (p.1 * q.1) (p.2 * q.2)
def rquo (p q : Rt) : Rt := nrm (p.1 * q.2) (p.2 * q.1)
def rcomp (p q : Rt) : Int := p.1 * q.2 - q.1 * p.2
def rabs (p : Rt) : Rt := ((p.1.natAbs : Int), p.2)
/-- a ratio of numbers of at most n bits, its lower one above nought -/
structure RB (n : Nat) (p : Rt) : Prop where
  n1 : p.1.natAbs < 2 ^ n
  n2 : p.2.natAbs < 2 ^ n
  pos : 0 < p.2
theorem RB.mono {n m : Nat} {p : Rt} (h : RB n p) (l : n ≤ m) : RB m p :=
  ⟨Nat.lt_of_lt_of_le h.n1 (Nat.pow_le_pow_right (by decide) l), Nat.lt_of_lt_of_le h.n2 (Nat.pow_le_pow_right (by decide) l), h.pos⟩
theorem mul_bits {i j : Int} {a b : Nat} (ha : i.natAbs < 2 ^ a) (hb : j.natAbs < 2 ^ b) : (i * j).natAbs < 2 ^ (a + b) := by
  rw [Int.natAbs_mul, Nat.pow_add]
  exact Nat.mul_lt_mul'' ha hb
theorem add_bits {i j : Int} {a : Nat} (ha : i.natAbs < 2 ^ a) (hb : j.natAbs < 2 ^ a) : (i + j).natAbs < 2 ^ (a + 1) := by
  rw [Nat.pow_succ]; omega
theorem sub_bits {i j : Int} {a : Nat} (ha : i.natAbs < 2 ^ a) (hb : j.natAbs < 2 ^ a) : (i - j).natAbs < 2 ^ (a + 1) := by
  rw [Nat.pow_succ]; omega
theorem fdiv_gcd (a b : Int) (hb : b ≠ 0) : ∃ x y : Int, a = x * (Int.gcd a b : Int) ∧ b = y * (Int.gcd a b : Int) ∧ 0 < Int.gcd a b ∧ a.fdiv (Int.gcd a b) = x ∧ b.fdiv (Int.gcd a b) = y ∧ a.fdiv (-(Int.gcd a b : Int)) = -x ∧ b.fdiv (-(Int.gcd a b : Int)) = -y ∧ Int.gcd x y = 1 := by
  have g0 : 0 < Int.gcd a b := Int.gcd_pos_of_ne_zero_right a hb
  obtain ⟨x, hx⟩ : (Int.gcd a b : Int) ∣ a := Int.gcd_dvd_left ..
  obtain ⟨y, hy⟩ : (Int.gcd a b : Int) ∣ b := Int.gcd_dvd_right ..
  have hx' : a = x * (Int.gcd a b : Int) := by rw [Int.mul_comm]; exact hx
  have hy' : b = y * (Int.gcd a b : Int) := by rw [Int.mul_comm]; exact hy
  generalize hg : (Int.gcd a b : Int) = g at *
  have gne : g ≠ 0 := by omega
  have gg : -g ≠ 0 := by omega
  have key : ∀ z : Int, (z * g).fdiv g = z := fun z => Int.mul_fdiv_cancel z gne
  have key2 : ∀ z : Int, (z * g).fdiv (-g) = -z := fun z => by
    have : z * g = (-z) * (-g) := by rw [Int.neg_mul_neg]
    rw [this]; exact Int.mul_fdiv_cancel (-z) gg
  refine ⟨x, y, hx', hy', g0, ?_, ?_, ?_, ?_, ?_⟩
  · rw [hx']; exact key x
  · rw [hy']; exact key y
  · rw [hx']; exact key2 x
  · rw [hy']; exact key2 y
  · have h1 : Int.gcd a b = Int.gcd x y * g.natAbs := by
      conv => lhs; rw [hx', hy']
      exact Int.gcd_mul_right x g y
    have h2 : g.natAbs = Int.gcd a b := by omega
    rw [h2] at h1
    have h3 : 1 * Int.gcd a b = Int.gcd x y * Int.gcd a b := by omega
    exact (Nat.eq_of_mul_eq_mul_right g0 h3).symm
/-- what a ratio in lowest terms is -/
theorem nrm_is (a b : Int) (hb : b ≠ 0) : ∃ g : Int, g ≠ 0 ∧ a = (nrm a b).1 * g ∧ b = (nrm a b).2 * g ∧ 0 < (nrm a b).2 ∧ Int.gcd (nrm a b).1 (nrm a b).2 = 1 := by
  obtain ⟨x, y, h1, h2, g0, e1, e2, e3, e4, co⟩ := fdiv_gcd a b hb
  unfold nrm
  have g0' : (0 : Int) < Int.gcd a b := by omega
  by_cases h : b < 0
  · rw [if_pos h, e3, e4]
    refine ⟨-(Int.gcd a b : Int), by omega, by rw [Int.neg_mul_neg]; exact h1, by rw [Int.neg_mul_neg]; exact h2, ?_, ?_⟩
    · show 0 < -y
      have z : y * (Int.gcd a b : Int) < 0 := by omega
      have z2 : y < 0 := by
        rcases Int.lt_or_le y 0 with q | q
        · exact q
        · have := Int.mul_nonneg q (Int.le_of_lt g0'); omega
      exact Int.neg_pos_of_neg z2
    · show Int.gcd (-x) (-y) = 1
      rw [Int.neg_gcd, Int.gcd_neg]; exact co
  · rw [if_neg h, e1, e2]
    refine ⟨Int.gcd a b, by omega, h1, h2, ?_, co⟩
    show 0 < y
    have : 0 < y * (Int.gcd a b : Int) := by omega
    exact Int.pos_of_mul_pos_left this (by omega)
theorem natAbs_le_mul {x g : Int} (h : g ≠ 0) : x.natAbs ≤ (x * g).natAbs := by
  rw [Int.natAbs_mul]
  exact Nat.le_mul_of_pos_right _ (by omega)
theorem nrm_le1 (a b : Int) (hb : b ≠ 0) : (nrm a b).1.natAbs ≤ a.natAbs := by
  obtain ⟨g, g0, h1, _⟩ := nrm_is a b hb
  conv => rhs; rw [h1]
  exact natAbs_le_mul g0
theorem nrm_le2 (a b : Int) (hb : b ≠ 0) : (nrm a b).2.natAbs ≤ b.natAbs := by
  obtain ⟨g, g0, _, h1, _⟩ := nrm_is a b hb
  conv => rhs; rw [h1]
  exact natAbs_le_mul g0
theorem nrm_pos (a b : Int) (hb : b ≠ 0) : 0 < (nrm a b).2 := by
  obtain ⟨g, g0, _, _, h, _⟩ := nrm_is a b hb; exact h
theorem nrm_cop (a b : Int) (hb : b ≠ 0) : Int.gcd (nrm a b).1 (nrm a b).2 = 1 := by
  obtain ⟨g, g0, _, _, _, h⟩ := nrm_is a b hb; exact h
theorem nrm_zero {a b : Int} (hb : b ≠ 0) (h : (nrm a b).1 = 0) : nrm a b = (0, 1) := by
  have c := nrm_cop a b hb
  have p := nrm_pos a b hb
  rw [h, Int.gcd_zero_left] at c
  refine Prod.ext h ?_
  show (nrm a b).2 = 1
  omega
theorem nrm_bits {a b : Int} {n : Nat} (hb : b ≠ 0) (h1 : a.natAbs < 2 ^ n) (h2 : b.natAbs < 2 ^ n) : RB n (nrm a b) :=
  ⟨Nat.lt_of_le_of_lt (nrm_le1 a b hb) h1, Nat.lt_of_le_of_lt (nrm_le2 a b hb) h2, nrm_pos a b hb⟩
theorem mul_ne {a b : Int} (h1 : 0 < a) (h2 : 0 < b) : a * b ≠ 0 := by
  have := Int.mul_pos h1 h2; omega
theorem RB.sum {n m : Nat} {p q : Rt} (h : RB n p) (k : RB m q) : RB (n + m + 1) (rsum p q) :=
  nrm_bits (mul_ne h.pos k.pos) (add_bits (mul_bits h.n1 k.n2) (by rw [Nat.add_comm n m]; exact mul_bits k.n1 h.n2)) (Nat.lt_of_lt_of_le (mul_bits h.n2 k.n2) (Nat.pow_le_pow_right (by decide) (by omega)))
theorem RB.dif {n m : Nat} {p q : Rt} (h : RB n p) (k : RB m q) : RB (n + m + 1) (rdif p q) :=
  nrm_bits (mul_ne h.pos k.pos) (sub_bits (mul_bits h.n1 k.n2) (by rw [Nat.add_comm n m]; exact mul_bits k.n1 h.n2)) (Nat.lt_of_lt_of_le (mul_bits h.n2 k.n2) (Nat.pow_le_pow_right (by decide) (by omega)))
theorem RB.prod {n m : Nat} {p q : Rt} (h : RB n p) (k : RB m q) : RB (n + m) (rprod p q) :=
  nrm_bits (mul_ne h.pos k.pos) (mul_bits h.n1 k.n1) (mul_bits h.n2 k.n2)
theorem RB.quo {n m : Nat} {p q : Rt} (h : RB n p) (k : RB m q) (hq : q.1 ≠ 0) : RB (n + m) (rquo p q) :=
  nrm_bits (by intro z; rcases Int.mul_eq_zero.mp z with z | z; · have := h.pos; omega
               · exact hq z) (mul_bits h.n1 k.n2) (mul_bits h.n2 k.n1)
theorem RB.abs {n : Nat} {p : Rt} (h : RB n p) : RB n (rabs p) := ⟨by show ((p.1.natAbs : Int)).natAbs < _; rw [Int.natAbs_natCast]; exact h.n1, h.n2, h.pos⟩
theorem RB.zero : RB 1 (0, 1) := ⟨by decide, by decide, by decide⟩
theorem rdif_zero {p q : Rt} (hp : 0 < p.2) (hq : 0 < q.2) : rdif p q = (0, 1) ↔ (rdif p q).1 = 0 :=
  ⟨fun h => by rw [h], fun h => nrm_zero (mul_ne hp hq) h⟩
theorem rcomp_swap (p q : Rt) : rcomp q p = - rcomp p q := by unfold rcomp; omega
end G3
namespace G3
open PySem L2
/-! promises of the ratio defs -/
abbrev BIG : Nat := 4000
def spCommon : Sp3 := fun ws M Q => ∃ a b : Int, ws = [.int a, .int b] ∧ Q (.int (Int.gcd a b)) M
def spRat : Sp3 := fun ws M Q => ∃ a b : Int, ws = [.int a, .int b] ∧ b ≠ 0 ∧ b.natAbs < 2 ^ 8990 ∧ Q (vr (nrm a b)) M
def spWhole : Sp3 := fun ws M Q => ∃ a : Int, ws = [.int a] ∧ Q (vr (a, 1)) M
def spBin (f : Rt → Rt → Rt) : Sp3 := fun ws M Q => ∃ p q : Rt, ws = [vr p, vr q] ∧ RB BIG p ∧ RB BIG q ∧ Q (vr (f p q)) M
def spQuo : Sp3 := fun ws M Q => ∃ p q : Rt, ws = [vr p, vr q] ∧ RB BIG p ∧ RB BIG q ∧ q.1 ≠ 0 ∧ Q (vr (rquo p q)) M
def spComp : Sp3 := fun ws M Q => ∃ p q : Rt, ws = [vr p, vr q] ∧ RB BIG p ∧ RB BIG q ∧ Q (.int (rcomp p q)) M
def spOrd : Sp3 := fun ws M Q => ∃ p q : Rt, ws = [vr p, vr q] ∧ RB BIG p ∧ RB BIG q ∧ Q (.int (if rcomp p q = 0 then 0 else if 0 < rcomp p q then 1 else -1)) M
def spLess : Sp3 := fun ws M Q => ∃ p q : Rt, ws = [vr p, vr q] ∧ RB BIG p ∧ RB BIG q ∧ Q (.bl (decide (rcomp p q < 0))) M
def spSize : Sp3 := fun ws M Q => ∃ p : Rt, ws = [vr p] ∧ Q (vr (rabs p)) M
def btw (p lo hi : Rt) : Bool := if rcomp hi lo < 0 then (!decide (rcomp p hi < 0) && !decide (rcomp lo p < 0)) else (!decide (rcomp p lo < 0) && !decide (rcomp hi p < 0))
def spBtw : Sp3 := fun ws M Q => ∃ p lo hi : Rt, ws = [vr p, vr lo, vr hi] ∧ RB BIG p ∧ RB BIG lo ∧ RB BIG hi ∧ Q (.bl (btw p lo hi)) M
theorem cmw {i j : Int} {a b : Nat} (ha : i.natAbs < 2 ^ a) (hb : j.natAbs < 2 ^ b) (h0 : 0 < a) (h1 : 0 < b) (h : a + b ≤ 1000000) : CMul i j ∨ CMulW i j := .inr (wide_mul ha hb h0 h1 h)
theorem cml {i j : Int} (h : -(2 ^ 64) < i) (h2 : i < 2 ^ 64) : CMul i j ∨ CMulW i j := .inl (.inl ⟨h, h2⟩)
theorem cmr {i j : Int} (h : -(2 ^ 64) < j) (h2 : j < 2 ^ 64) : CMul i j ∨ CMulW i j := .inl (.inr ⟨h, h2⟩)
theorem cdv {i j : Int} {b : Nat} (h : j ≠ 0) (hb : j.natAbs < 2 ^ b) (h0 : 0 < b) (h9 : b ≤ 9000) : CDivV i j := ⟨h, Nat.lt_of_lt_of_le (PySem.Flt.log2_lt_of h0 hb) h9⟩
theorem gcd_step (a b : Nat) : Nat.gcd b (a % b) = Nat.gcd a b := by rw [Nat.gcd_comm b, ← Nat.gcd_rec, Nat.gcd_comm]
theorem gcd_bits {a b : Int} {n : Nat} (hb : b ≠ 0) (h : b.natAbs < 2 ^ n) : ((Int.gcd a b : Int)).natAbs < 2 ^ n := by
  rw [Int.natAbs_natCast]
  exact Nat.lt_of_le_of_lt (Nat.le_of_dvd (by omega) (Int.gcd_dvd_natAbs_right a b)) h
theorem gcd_ne {a b : Int} (hb : b ≠ 0) : (Int.gcd a b : Int) ≠ 0 := by
  have := Int.gcd_pos_of_ne_zero_right a hb; omega
theorem nrm_neg {a b : Int} (h : b < 0) : nrm a b = (a.fdiv (-(Int.gcd a b : Int)), b.fdiv (-(Int.gcd a b : Int))) := by unfold nrm; rw [if_pos h]
theorem nrm_nn {a b : Int} (h : ¬ b < 0) : nrm a b = (a.fdiv (Int.gcd a b), b.fdiv (Int.gcd a b)) := by unfold nrm; rw [if_neg h]
theorem big_mul {i j : Int} (ha : i.natAbs < 2 ^ BIG) (hb : j.natAbs < 2 ^ BIG) : (i * j).natAbs < 2 ^ 8990 := Nat.lt_of_lt_of_le (mul_bits ha hb) (Nat.pow_le_pow_right (by decide) (by decide))
end G3

set_option Elab.async false
set_option linter.all false
set_option maxRecDepth 100000
set_option maxHeartbeats 4000000
/-! spots, lines between them, in plain Lean; promises of the corner defs -/
namespace G3
open PySem L2 PySem.W
abbrev Spt := Rt × Rt
abbrev vsp (s : Spt) : VV := .tup [vr s.1, vr s.2]
def pk (s : Spt) : Bool → Rt
  | true => s.2
  | false => s.1
structure SB (n : Nat) (s : Spt) : Prop where
  x : RB n s.1
  y : RB n s.2
theorem SB.pk {n : Nat} {s : Spt} (h : SB n s) (k : Bool) : RB n (pk s k) := by
  cases k
  · exact h.x
  · exact h.y
theorem SB.mono {n m : Nat} {s : Spt} (h : SB n s) (l : n ≤ m) : SB m s := ⟨h.x.mono l, h.y.mono l⟩
/-- the longer way is the second one -/
def longB (a b : Spt) : Bool := decide (rcomp (rabs (rdif a.1 b.1)) (rabs (rdif a.2 b.2)) < 0)
def shareAt (k : Bool) (a b s : Spt) : Rt := if (rdif (pk b k) (pk a k)).1 = 0 then (0, 1) else rquo (rdif (pk s k) (pk a k)) (rdif (pk b k) (pk a k))
def share (a b s : Spt) : Rt := shareAt (longB a b) a b s
def onAt (k : Bool) (a b : Spt) (t : Rt) : Rt := rsum (pk a k) (rprod t (rdif (pk b k) (pk a k)))
def asideF (a b s : Spt) : Rt := rabs (rdif (pk s (!longB a b)) (onAt (!longB a b) a b (share a b s)))
def passF (a b s : Spt) (t : Int) : Bool := btw (pk s (longB a b)) (pk a (longB a b)) (pk b (longB a b)) && !decide (rcomp (t, 1) (asideF a b s) < 0)
/-- the bits of spots that the corner defs take -/
abbrev CB : Nat := 400
def vB (k : Bool) : Int := if k then 1 else 0
theorem RB.big {n : Nat} {p : Rt} (h : RB n p) (l : n ≤ BIG := by decide) : RB BIG p := h.mono l
theorem RB.wh {t : Int} {n : Nat} (h : t.natAbs < 2 ^ n) (h0 : 0 < n) : RB n (t, 1) := ⟨h, Nat.one_lt_two_pow (by omega), Int.one_pos⟩
theorem shareAt_bits {k : Bool} {a b s : Spt} (ha : SB CB a) (hb : SB CB b) (hs : SB CB s) : RB 1602 (shareAt k a b s) := by
  unfold shareAt
  split
  · exact RB.zero.mono (by decide)
  · rename_i h
    exact RB.quo (n := 801) (m := 801) ((hs.pk k).dif (ha.pk k)) ((hb.pk k).dif (ha.pk k)) h
theorem onAt_bits {k : Bool} {a b : Spt} {t : Rt} (ha : SB CB a) (hb : SB CB b) (ht : RB 1602 t) : RB 2804 (onAt k a b t) :=
  (ha.pk k).sum (m := 2403) (ht.prod (m := 801) ((hb.pk k).dif (ha.pk k)))
theorem aside_bits {a b s : Spt} (ha : SB CB a) (hb : SB CB b) (hs : SB CB s) : RB 3205 (asideF a b s) :=
  ((hs.pk _).dif (m := 2804) (onAt_bits ha hb (shareAt_bits ha hb hs))).abs
def spLong : Sp3 := fun ws M Q => ∃ a b : Spt, ws = [vsp a, vsp b] ∧ SB CB a ∧ SB CB b ∧ Q (.int (vB (longB a b))) M
def spShare : Sp3 := fun ws M Q => ∃ a b s : Spt, ws = [vsp a, vsp b, vsp s] ∧ SB CB a ∧ SB CB b ∧ SB CB s ∧ Q (vr (share a b s)) M
def spAside : Sp3 := fun ws M Q => ∃ a b s : Spt, ws = [vsp a, vsp b, vsp s] ∧ SB CB a ∧ SB CB b ∧ SB CB s ∧ Q (vr (asideF a b s)) M
def spPasses : Sp3 := fun ws M Q => ∃ (a b s : Spt) (t : Int), ws = [vsp a, vsp b, vsp s, .int t] ∧ SB CB a ∧ SB CB b ∧ SB CB s ∧ t.natAbs < 2 ^ 3205 ∧ Q (.bl (passF a b s t)) M
/-- the spots between -/
def midS (row : List Spt) (i j : Nat) : List Spt := (row.drop (i + 1)).take (j - (i + 1))
def mayF (row : List Spt) (i j : Nat) (t : Int) : Bool := (midS row i j).all fun s => passF (row.getD i ((0, 1), (0, 1))) (row.getD j ((0, 1), (0, 1))) s t
def spMay : Sp3 := fun ws M Q => ∃ (w : VV) (row : List Spt) (i j : Nat) (t : Int), ws = [w, .int i, .int j, .int t] ∧ Lst M w (row.map vsp) ∧ (∀ s ∈ row, SB CB s) ∧ row.length ≤ 1000 ∧ i < row.length ∧ j < row.length ∧ i < j ∧ t.natAbs < 2 ^ 3205 ∧ Q (.bl (mayF row i j t)) M
theorem dwRt {M : Mp} (p : Rt) : DW M (vr p) (Datum.toD p) := .tup (.cons (.int _) (.cons (.int _) .nil))
theorem shRt (p : Rt) : SeqAt.shaped (Datum.toD p) = true := by rfl
theorem o2_eqRt {X : Cx} {M : Mp} {Q : VQ} {p q : Rt} (hu : X.A.units + 64 < cLine) (h : Q (.bl (decide (p = q))) M) : O2 X (compareOp .Eq) (vr p) (vr q) M Q :=
  o2_eqD hu (dwRt p) (dwRt q) (shRt p) (shRt q) (by rw [Datum.eqv]; exact h)
theorem atI_pk (k : Bool) (s : Spt) : atI [vr s.1, vr s.2] (vB k) = some (vr (pk s k)) := by cases k <;> rfl
theorem atI_npk (k : Bool) (s : Spt) : atI [vr s.1, vr s.2] (1 - vB k) = some (vr (pk s (!k))) := by cases k <;> rfl
/-- a tuple that stands in the fragment -/
theorem rv_tupK {K : PySem.W.Frag} {a : Addr} {o : Obj} {its : Array Value} {n : Nat} {vs : List V} {ws : List VV} (hk : K.lookup a = some o) (hc : o.cls = .type "tuple") (hd : o.data = .seq its n) (hs : its.size ≤ sizeLine) (hv : Vals vs its.toList) (hr : ∀ H, Rvs K H vs ws) (H : Hp) : Rv K H (.ref a) (.tup ws) :=
  .tup (.inr ⟨o, its, n, hk, hc, hd, hs, hv⟩) (hr H)
end G3

set_option Elab.async false
set_option linter.all false
set_option maxRecDepth 100000
set_option maxHeartbeats 4000000
/-! L3: the law's bag -/
namespace G3
open PySem PySem.Spec L2
section
variable {X : Cx} {σ : St3} {M : Mp} {Q : VQ} {D : En}
theorem wss_open {sts : List Stmt} {b : Addr} (hb : M b = some .bag) (h : ∀ c i1 i2 i3 i4 cells, BagOk i1 i2 i3 i4 cells → M c = none → c ≠ b → (∀ a, M a = some .bag → a = b) → WSs X sts σ (updM (updM M b (.lst [.ref c, .int i1, .int i2, .int i3, .int i4])) c (.lst (cells.map VV.int))) D) : WSs X sts σ M D := fun σ' H s m => by
  obtain ⟨c, i1, i2, i3, i4, cells, h1, h2, h3, m'⟩ := m.opn hb
  exact h c i1 i2 i3 i4 cells h1 h2 h3 (m b _ hb).2 σ' H s m'
theorem we_close {e : Expr} (h : WE X e σ M fun u M' => ∃ M0 b c i1 i2 i3 i4 cells, M' b = some (.lst [.ref c, .int i1, .int i2, .int i3, .int i4]) ∧ M' c = some (.lst (cells.map VV.int)) ∧ BagOk i1 i2 i3 i4 cells ∧ (∀ a, M' a ≠ some .bag) ∧ M0 b = some .bag ∧ M0 c = none ∧ (∀ a o, M0 a = some o → a ≠ b → M' a = some o) ∧ Q u M0) : WE X e σ M Q := fun σ' H s m =>
  (h σ' H s m).mono fun _ _ ⟨u, M', t, m', r, M0, b, c, i1, i2, i3, i4, cells, h1, h2, h3, h4, h5, h6, h7, q⟩ => ⟨u, M0, t, m'.cls h1 h2 h3 h4 h5 h6 h7, r, q⟩
end
/-! == of data with a Lean type -/
section
open PySem.W
variable {X : Cx} {M : Mp} {Q : VQ} {α : Type} [DecidableEq α] [Datum α]
theorem o2_eqT {u v : VV} {x y : α} (hu : X.A.units + Datum.depth α < cLine) (h1 : DW M u (Datum.toD x)) (h2 : DW M v (Datum.toD y)) (q : Q (.bl (decide (x = y))) M) : O2 X (compareOp .Eq) u v M Q := fun H v1 v2 m r1 r2 pins s σ u1 u2 I z1 z2 => by
  obtain ⟨as, ra⟩ := Dp.reads I _ _ _ (h1.dp m _ _ _ r1) z1
  obtain ⟨bs, rb⟩ := Dp.reads I _ _ _ (h2.dp m _ _ _ r2) z2
  exact eq_datum (x := x) (y := y) ⟨as, ra⟩ ⟨bs, rb⟩ hu ⟨.bl _, H, I, rfl, .mk m (.bl _) q⟩
theorem o2_neT {u v : VV} {x y : α} (hu : X.A.units + Datum.depth α < cLine) (h1 : DW M u (Datum.toD x)) (h2 : DW M v (Datum.toD y)) (q : Q (.bl (!decide (x = y))) M) : O2 X (compareOp .NotEq) u v M Q := fun H v1 v2 m r1 r2 pins s σ u1 u2 I z1 z2 => by
  obtain ⟨as, ra⟩ := Dp.reads I _ _ _ (h1.dp m _ _ _ r1) z1
  obtain ⟨bs, rb⟩ := Dp.reads I _ _ _ (h2.dp m _ _ _ r2) z2
  exact ne_datum (x := x) (y := y) ⟨as, ra⟩ ⟨bs, rb⟩ hu ⟨.bl _, H, I, rfl, .mk m (.bl _) (by rw [decide_not]; exact q)⟩
theorem dws_map {v : α → VV} (h : ∀ x, DW M (v x) (Datum.toD x)) : ∀ xs : List α, DWs M (xs.map v) (xs.map Datum.toD)
  | [] => .nil
  | x :: xs => .cons (h x) (dws_map h xs)
theorem dw_lst {v : α → VV} {u : VV} {xs : List α} (h : ∀ x, DW M (v x) (Datum.toD x)) (hl : Lst M u (xs.map v)) : DW M u (Datum.toD xs) := .lst hl (dws_map h xs)
theorem dw_vsp (s : Spt) : DW M (vsp s) (Datum.toD s) := .tup (.cons (dwRt _) (.cons (dwRt _) .nil))
end
theorem SimM.uniq {K : PySem.W.Frag} {M : Mp} {H : Hp} (m : SimM K M H) {a b : Addr} (h : M a = some .bag) (k : M b = some .bag) : a = b := (m b _ k).2 a h
/-! promises of the law's own defs -/
def NoBag (M : Mp) : Prop := ∀ a, M a ≠ some .bag
def spBag : Sp3 := fun ws M Q => ∃ (w : VV) (ns : List Int), ws = [w] ∧ Lst M w (ns.map .int) ∧ NoBag M ∧ ∀ b, M b = none → Q (.ref b) (updM M b .bag)
def spDraw : Sp3 := fun ws M Q => ∃ (b : Addr) (many : Int), ws = [.ref b, .int many] ∧ M b = some .bag ∧ 0 < many ∧ many < 1073741824 ∧ ∀ r : Int, 0 ≤ r → r < many → Q (.int r) M
def spAny : Sp3 := fun ws M Q => ∃ (b : Addr) (w : VV) (xs : List VV), ws = [.ref b, w] ∧ M b = some .bag ∧ Lst M w xs ∧ 0 < xs.length ∧ xs.length < 1000000 ∧ ∀ x, x ∈ xs → Q x M
def spRatio : Sp3 := fun ws M Q => ∃ (b : Addr) (reach : Int), ws = [.ref b, .int reach] ∧ M b = some .bag ∧ 0 ≤ reach ∧ reach ≤ 100 ∧ ∀ x : Rt, RB 14 x → Q (vr x) M
def spSpot : Sp3 := fun ws M Q => ∃ (b : Addr) (reach : Int), ws = [.ref b, .int reach] ∧ M b = some .bag ∧ 0 ≤ reach ∧ reach ≤ 100 ∧ ∀ s : Spt, SB 14 s → Q (vsp s) M
def spSameB : Sp3 := fun ws M Q => ∃ (x y : Bool), ws = [.bl x, .bl y] ∧ Q (.bl (decide (x = y))) M
def spOn : Sp3 := fun ws M Q => ∃ (a b : Spt) (t : Rt), ws = [vsp a, vsp b, vr t] ∧ SB CB a ∧ SB CB b ∧ RB 1602 t ∧ Q (vsp (onAt false a b t, onAt true a b t)) M
def spCorners : Sp3 := fun ws M Q => ∃ (b : Addr) (many : Int), ws = [.ref b, .int many] ∧ M b = some .bag ∧ 0 < many ∧ many ≤ 10 ∧ ∀ (p : Addr) (row : List Spt), M p = none → 2 ≤ row.length → row.length ≤ 11 → (∀ s ∈ row, SB CB s) → Q (.ref p) (updM M p (.lst (row.map vsp)))
end G3

set_option Elab.async false
set_option linter.all false
set_option maxRecDepth 100000
set_option maxHeartbeats 4000000
/-! L3: further rules -/
namespace G3
open PySem PySem.Spec L2
section
variable {X : Cx} {a b c e tg : Expr} {es : List Expr} {σ : St3} {M : Mp} {Q : VQ} {D : En} {pos : Pos} {x : Str} {i : Nat}
variable {P : Program} {w : World} {K : PySem.W.Frag} {mg : Str → Option Value} {base : Heap} {CX : CXT} {N : List Str} {sc : Scope} {fl : Bool} {k : Nat}
/-- xs[::-1] of a list -/
theorem we_rev {kk : Nat} {p1 p2 p3 : Pos} (h : WE X e σ M fun u M1 => ∃ ws, Lst M1 u ws ∧ ∀ p, M1 p = none → Q (.ref p) (updM M1 p (.lst ws.reverse))) : WE X (.Subscript e (.Slice none none (some (.UnaryOp .USub (.Constant (.int 1) kk p1) p2)) p3) pos) σ M Q := fun σ' H s m =>
  wE.of (pe_revL wE.pe) (h.run s m fun v H1 u M1 t1 m1 r1 s1 ⟨ws, hl, q⟩ => by
    obtain ⟨ad, vs, rfl, h1, h2⟩ := hl.v m1 r1
    exact ⟨ad, vs, rfl, h1, fun p hp => ⟨.ref p, _, t1.trans (TM.fresh hp), m1.putL (TM.fresh hp) (.inl hp) (ws := ws.reverse) (by
      have rev : ∀ {xs : List V} {us : List VV}, Rvs X.K H1 xs us → Rvs X.K H1 xs.reverse us.reverse := fun {xs us} h => by
        induction xs generalizing us with
        | nil => cases h; exact .nil
        | cons x xs ih => cases h with | cons a b => rw [List.reverse_cons, List.reverse_cons]; exact (ih b).append (.cons a .nil)
      exact rev h2), .ref p, q p (m1.no hp)⟩⟩)
/-- a, b, .. = a list of that length -/
theorem wg_lst (B : Bd P w K mg base CX N sc fl k X) {R : St3 → Mp → Prop} {u : VV} {us : List VV} {kk : Nat} (hl : Lst M u us) (q : WGs X es us σ M R) (hn : (assignEach es X.env).length = us.length := by rfl) (hst : (assignEach es X.env).findIdx? (·.1) = none := by rfl) : WG X (.Tuple es kk pos) u σ M R := fun σ' H v s m r => by
  obtain ⟨ad, vs, rfl, h1, h2⟩ := hl.v m r
  exact wG.of (pg_lst B.calm wGs.pgs rfl hst) ⟨ad, vs, rfl, h1, by rw [h2.length]; exact hn.symm, q σ' H vs s m h2⟩
/-- a comprehension over a tuple -/
theorem lcT_read (B : Bd P w K mg base CX N sc fl k X) {elt : Expr} {scope : Scope} (sc' : Scope) (hs' : relabel scope X.env = sc') (h : WE X e σ M fun u M1 => ∃ ws, u = .tup ws ∧ Comp P w K mg base CX N sc' k elt i Q ws.length (fun j z => ws[j]? = some z) (fun _ => True) σ M1)
    {σ' : St} {H : Hp} (s : Slots X.K H σ' σ) (m : SimM X.K M H) {Qv : VK} (hQ : ∀ v H', PoE X.K H Q v H' → Qv v H') : tLc (iTup X.K (wE X e)) (gName i) tYes (teB X scope elt) [i] σ' H Qv := by
  refine h.run s m fun v H1 u M1 t1 m1 r1 s1 ⟨ws, hu, q1⟩ => ?_
  subst hu
  obtain ⟨ad, vs, rfl, h1, h2⟩ := r1.tupv
  refine ⟨ad, rfl, ⟨vs, h1⟩, fun D hD => ?_⟩
  obtain ⟨Pv, p0, ph, ps, pe⟩ := q1 D (m1.no hD)
  have tD : TM H1 (upd H1 D (.lst [])) := TM.fresh hD
  refine ⟨fun j n H2 => n = ws.length - j ∧ j ≤ ws.length ∧ ∃ M2, TM H1 H2 ∧ SimM X.K M2 H2 ∧ Pv j M2, ⟨_, rfl, Nat.zero_le _, _, tD, m1.putL tD (.inl hD) .nil, p0⟩, ?_⟩
  rintro j n H2 ⟨rfl, hj, M2, t2, m2, p2⟩
  have h3 := SqT.mono t2 h1
  have h4 := Rvs.mono t2 _ _ h2
  have hlen := h4.length
  by_cases hlt : j < ws.length
  · obtain ⟨y, hy, ry⟩ := h4.get (i := j) (w := ws[j]) (by simp [hlt])
    refine .inr ⟨⟨vs, y, h3, hy⟩, fun H' => ∃ M', TM H1 H' ∧ SimM X.K M' H' ∧ Pv (j + 1) M', fun H' z => ⟨_, by omega, rfl, hlt, z⟩, fun y' H' hy' => ?_⟩
    obtain ⟨rfl, hy'⟩ := hy'
    have ey := hy' vs h3
    rw [hy] at ey
    cases ey
    refine ⟨wipe1, ?_⟩
    show ∀ s0 H0 C cl fp, wE (X.blk s0 H0 scope (compEnvC scope cl C X.env) fp) elt _ _ _
    intro s0 H0 C cl fp
    have Y := B.blk s0 H0 scope C cl fp
    rw [hs'] at Y
    have z := ps _ Y j ws[j] M2 hlt (by simp [hlt]) p2
    have hset : (wipe σ' [i]).set i (some y) = σ'.set i (some y) := by
      show (σ'.set i none).set i (some y) = _
      rw [List.set_set]
    refine (z _ H' (by rw [hset]; exact (s1.mono t2).set i ry) m2).mono fun y3 H3 ⟨w3, M3, t3, m3, r3, acc, e3, l3, p3⟩ => ?_
    obtain ⟨va, h5, h6⟩ := m3 _ _ e3
    exact ⟨va, h5, by rw [h6.length]; exact l3, _, (t2.trans t3).trans (TM.lst h5), m3.putL (TM.lst h5) (.inr ⟨_, e3⟩) (h6.append (.cons r3 .nil)), p3⟩
  · refine .inl ⟨⟨vs, h3, by omega⟩, hQ _ _ ⟨.ref D, M2, t1.trans t2, m2, .ref D, pe M2 ?_⟩⟩
    have : j = ws.length := by omega
    subst this; exact p2
section
variable {elt : Expr} {scope : Scope} {px : Pos}
theorem we_lcTup (B : Bd P w K mg base CX N sc fl k X) (hi : At N i x) (hok : blkC N sc scope [(x, i)] = true) (hx : (scBlk scope sc).names.lookup x = some .local)
    (h : WE X e σ M fun u M1 => ∃ ws, u = .tup ws ∧ Comp P w K mg base CX N (scBlk scope sc) k elt i Q ws.length (fun j z => ws[j]? = some z) (fun _ => True) σ M1)
    (hs : ∀ x, foldedSetIterable e X.env x = pure x := by intro _; rfl) : WE X (.ListComp elt [⟨.Name x px, e, [], 0⟩] scope pos) σ M Q := fun σ' H s m =>
  wE.of (pe_lc (own := [(x, i)]) (tt := tYes) (g := gName i) (te := teB X scope elt) B.calm (by rw [B.eN]; exact B.nd) (pi_tup wE.pe) (by rw [B.eN, B.esc]; exact blkOk_by hok)
    (B.pgB hi hx) (fun _ _ _ _ _ => pts_nil) (fun s0 H0 C cl fp => ⟨fun pins s σ H R I h => h s0 H0 C cl fp pins s I⟩) hs) (lcT_read B _ (B.rel scope) h s m fun _ _ z => z)
theorem ws_setLcTup (B : Bd P w K mg base CX N sc fl k X) {spos : Pos} {y : Str} {py : Pos} {iy : Nat} (hiy : At N iy y) (hyl : sc.names.lookup y = some .local) (hsw : swapsWith (.ListComp elt [⟨.Name x px, e, [], 0⟩] scope pos) (some (.Name y py)) spos.line (cenv sc) = pure true) (hi : At N i x) (hok : blkC N sc scope [(x, i)] = true) (hx : (scBlk scope sc).names.lookup x = some .local)
    (h : WE X e σ M fun u M1 => ∃ ws, u = .tup ws ∧ Comp P w K mg base CX N (scBlk scope sc) k elt i (fun u M1 => D.nx (σ.set iy (some u)) M1) ws.length (fun j z => ws[j]? = some z) (fun _ => True) σ M1)
    (hs : ∀ x, foldedSetIterable e X.env x = pure x := by intro _; rfl) : WS X (.Assign [.Name y py] (.ListComp elt [⟨.Name x px, e, [], 0⟩] scope pos) spos) σ M D := fun σ' H s m =>
  wS.of (ps_setLc (i := iy) (own := [(x, i)]) (tt := tYes) (g := gName i) (te := teB X scope elt) B.calm (by rw [B.eN]; exact B.nd) (by rw [B.eN]; exact hiy.get) (by rw [B.esc]; exact hyl) (by rw [swWith_of (env' := cenv sc) (by rw [B.esc]; rfl)]; exact hsw) (pi_tup wE.pe) (by rw [B.eN, B.esc]; exact blkOk_by hok)
    (B.pgB hi hx) (fun _ _ _ _ _ => pts_nil) (fun s0 H0 C cl fp => ⟨fun pins s σ H R I h => h s0 H0 C cl fp pins s I⟩) hs) (lcT_read B _ (B.rel scope) h s m fun v H' ⟨u, M', t, m', r, q⟩ => ⟨_, M', t, (s.mono t).set iy r, m', q⟩)
end
theorem comp_pureT {α : Type} {elt : Expr} {sc' : Scope} {xs : List α} {v f : α → VV} (hz : xs.length ≤ sizeLine)
    (he : ∀ Y : Cx, Bd P w K mg base CX N sc' false k Y → ∀ (j : Nat) (z : α) M', xs[j]? = some z → LeM M M' → WE Y elt (σ.set i (some (v z))) M' fun y M2 => y = f z ∧ LeM M' M2)
    (q : ∀ D, M D = none → Q (.ref D) (updM M D (.lst (xs.map f)))) : Comp P w K mg base CX N sc' k elt i (Fgt Q) (xs.map v).length (fun j z => (xs.map v)[j]? = some z) (fun _ => True) σ M := fun D hD => by
  obtain ⟨Pv, p0, _, ps, pe⟩ := comp_pure (u := .seq (xs.map v)) (.seq _) hz he q D hD
  exact ⟨Pv, p0, fun _ _ _ _ => trivial, ps, pe⟩
end
/-! ### values alike as data, to a depth -/
inductive DE (M : Mp) : Nat → VV → VV → Prop
  | non (n) : DE M n .non .non
  | bl (n b) : DE M n (.bl b) (.bl b)
  | int (n i) : DE M n (.int i) (.int i)
  | str (n x) : DE M n (.str x) (.str x)
  | lst {n u v us vs} : Lst M u us → Lst M v vs → us.length = vs.length → us.length ≤ 100000 → (∀ (j : Nat) x y, us[j]? = some x → vs[j]? = some y → DE M n x y) → DE M (n + 1) u v
  | tup {n us vs} : us.length = vs.length → us.length ≤ 100000 → (∀ (j : Nat) x y, us[j]? = some x → vs[j]? = some y → DE M n x y) → DE M (n + 1) (.tup us) (.tup vs)
theorem DE.le {M M' : Mp} (l : LeM M M') : ∀ {n : Nat} {u v : VV}, DE M n u v → DE M' n u v := fun {n u v} h => by
  induction h with
  | non n => exact .non n
  | bl n b => exact .bl n b
  | int n b => exact .int n b
  | str n b => exact .str n b
  | lst h1 h2 h3 h4 _ ih => exact .lst (h1.le l) (h2.le l) h3 h4 ih
  | tup h3 h4 _ ih => exact .tup h3 h4 ih
theorem DE.rt {M : Mp} (p : Rt) (n : Nat) : DE M (n + 1) (vr p) (vr p) := .tup rfl (by show 2 ≤ 100000; decide) fun j x y h1 h2 => by
  rw [h1] at h2; cases h2
  match j with
  | 0 => cases h1; exact .int _ _
  | 1 => cases h1; exact .int _ _
  | j + 2 => cases h1
theorem DE.spt {M : Mp} (s : Spt) (n : Nat) : DE M (n + 2) (vsp s) (vsp s) := .tup rfl (by show 2 ≤ 100000; decide) fun j x y h1 h2 => by
  rw [h1] at h2; cases h2
  match j with
  | 0 => cases h1; exact .rt _ _
  | 1 => cases h1; exact .rt _ _
  | j + 2 => cases h1
theorem DE.map {M : Mp} {α : Type} {f : α → VV} {n : Nat} {xs : List α} {u v : VV} (hu : Lst M u (xs.map f)) (hv : Lst M v (xs.map f)) (hl : xs.length ≤ 100000) (h : ∀ x ∈ xs, DE M n (f x) (f x)) : DE M (n + 1) u v :=
  .lst hu hv rfl (by rw [List.length_map]; exact hl) fun j x y h1 h2 => by
    rw [h1] at h2; cases h2
    obtain ⟨z, hz, rfl⟩ := List.mem_map.mp (List.mem_of_getElem? h1)
    exact h z hz
def spIsInt : Sp3 := fun ws M Q => ∃ i : Int, ws = [.int i] ∧ Q (.bl true) M
def spSame (n : Nat) : Sp3 := fun ws M Q => ∃ u v, ws = [u, v] ∧ DE M n u v ∧ Q (.bl true) M
end G3

set_option Elab.async false
set_option linter.all false
set_option maxRecDepth 100000
set_option maxHeartbeats 4000000
/-! L3: keywords and defaults, reversed ranges, more of lists, comprehensions with a test -/
namespace G3
open PySem PySem.Spec L2
/-! ### calls with keywords, with defaults -/
/-- the def keeps sp, however it is called -/
def Ev.fn (E : Ev) (k : Nat) (x : Str) (ps : List Str) (sp : Sp3) : Prop := ∃ f fd, E.mg x = some (.ref f) ∧ PySem.W.keepIn E.K (.ref f) = true ∧ FnOk E.P E.w E.K E.mg E.base E.CX k f fd ps (toSp E.K sp) ∧ ∃ oc od osl, E.K.lookup f = some ⟨oc, od, .func fd, osl⟩
/-- n values and the keywords ks bind its parameters -/
def Ev.bnd (E : Ev) (x : Str) (ps : List Str) (n : Nat) (ks : List Str) : Prop := ∃ f fd, E.mg x = some (.ref f) ∧ (∃ oc od osl, E.K.lookup f = some ⟨oc, od, .func fd, osl⟩) ∧ ∀ (s : Shared) (us ws : List Value), E.K.In s.heap → us.length = n → ws.length = ks.length → BindsTo s fd ⟨us, ks.zip ws⟩ (ps.zip (us ++ ws))
/-- the written values and the defaults dws bind its parameters -/
def Ev.dfl (E : Ev) (x : Str) (ps : List Str) (dws : List VV) : Prop := ∃ f fd ds dvs, E.mg x = some (.ref f) ∧ (∃ oc od osl, E.K.lookup f = some ⟨oc, od, .func fd, osl⟩) ∧ Vals dvs ds ∧ (∀ H, Rvs E.K H dvs dws) ∧ Binds E.K fd ps ds
/-- a def whose keyword-only parameters have defaults -/
def TxK (E : Ev) (x : Str) (st : Stmt) (kws : List (Str × V)) : Prop := ∃ f fd, FunD E.K x x (defArgs st) (defBody st) (defScope st) [] kws f fd ∧ E.mg x = some (.ref f)
theorem fn_of3 {E : Ev} {x : Str} {st : Stmt} {f : Addr} {fd : FuncData} {ps : List Str} {dvs : List V} {kws : List (Str × V)} (F : FunD E.K x x (defArgs st) (defBody st) (defScope st) dvs kws f fd) (hmg : E.mg x = some (.ref f)) (N : List Str) {k : Nat} {sp : Sp3} (S : FnScope N ps (defScope st)) (len : ∀ ws M Q, sp ws M Q → ws.length = ps.length)
    (body : ∀ X : Cx, E.bd N (defScope st) true k X → ∀ ws M Q, sp ws M Q → WSs X (defBody st) (ws.map some ++ List.replicate (N.length - ws.length) none) M
      { nx := fun _ M' => ∃ M0, LeM M0 M' ∧ Q .non M0, rt := fun u M' => ∃ M0, LeM M0 M' ∧ Q u M0 }) : E.fn (k + 1) x ps sp := by
  obtain ⟨oc, od, dV, kV, doc, pm, an, cdv, ct, osl, rfl, lk, hcd, _, _⟩ := F.ex
  refine ⟨f, _, hmg, F.kp, fn_of lk hcd S (fun vs H Q E ⟨ws, M, Q3, _, r, h, _⟩ => by rw [r.length]; exact len ws M Q3 h) fun A outer s H vs Q E' hr ⟨ws, M, Q3, m, r, h, hq⟩ => ?_, oc, od, osl, lk⟩
  have B : E.bd N (defScope st) true k (cxOf E.CX E.P E.w E.K E.mg E.base N x (defScope st) f cdv A outer s H E').nox :=
    ⟨rfl, rfl, rfl, rfl, rfl, rfl, rfl, rfl, hr, E.hp, PassesOwn.never, S.nd, fun _ _ => rfl⟩
  have b := body _ B ws M Q3 h (L2.start N vs) H (Slots.start r N) m
  refine ⟨wSs _ (defBody st), wSs.pss.nox, b.mono ?_ ?_ ?_ ?_⟩
  · rintro σ' H' ⟨_, M', t, _, m', M0, l, q⟩
    exact hq _ _ _ _ q t (m'.sub l) .non
  · rintro v H' ⟨u, M', t, m', rv, M0, l, q⟩
    exact hq _ _ _ _ q t (m'.sub l) rv
  · rintro σ' H' ⟨_, _, _, _, _, q⟩; exact q.elim
  · rintro σ' H' ⟨_, _, _, _, _, q⟩; exact q.elim
theorem TxK.fn {E : Ev} {x : Str} {st : Stmt} {ps : List Str} {kws : List (Str × V)} (T : TxK E x st kws) (N : List Str) {k : Nat} {sp : Sp3} (S : FnScope N ps (defScope st)) (len : ∀ ws M Q, sp ws M Q → ws.length = ps.length)
    (body : ∀ X : Cx, E.bd N (defScope st) true k X → ∀ ws M Q, sp ws M Q → WSs X (defBody st) (ws.map some ++ List.replicate (N.length - ws.length) none) M
      { nx := fun _ M' => ∃ M0, LeM M0 M' ∧ Q .non M0, rt := fun u M' => ∃ M0, LeM M0 M' ∧ Q u M0 }) : E.fn (k + 1) x ps sp := by
  obtain ⟨f, fd, F, hm⟩ := T
  exact fn_of3 F hm N S len body
theorem FunD.there {K : PySem.W.Frag} {x qual : Str} {params : Arguments} {body : List Stmt} {scope : Scope} {dvs : List V} {kws : List (Str × V)} {f : Addr} {fd : FuncData} (F : FunD K x qual params body scope dvs kws f fd) : ∃ oc od osl, K.lookup f = some ⟨oc, od, .func fd, osl⟩ := by
  obtain ⟨oc, od, dV, kV, doc, pm, an, cdv, ct, osl, rfl, lk, _⟩ := F.ex
  exact ⟨oc, od, osl, lk⟩
/-- every keyword-only parameter is named -/
theorem TxK.bnd {E : Ev} {x : Str} {st : Stmt} {ps : List Str} {kws : List (Str × V)} (T : TxK E x st kws) (n : Nat) (ks : List Str) (h : ∀ (kV doc pm : Value) (an : Option Addr) (cdv ct : Value) (us ws : List Value), us.length = n → ws.length = ks.length →
    bindArgs (PySem.W.fnOf x x (defArgs st) (defBody st) (defScope st) .none kV doc pm an cdv ct) ⟨us, ks.zip ws⟩ = pure (ps.zip (us ++ ws))) : E.bnd x ps n ks := by
  obtain ⟨f, fd, F, hm⟩ := T
  refine ⟨f, fd, hm, FunD.there F, fun s us ws _ l1 l2 => ?_⟩
  obtain ⟨oc, od, dV, kV, doc, pm, an, cdv, ct, osl, rfl, lk, _, hD, _⟩ := F.ex
  rcases hD with ⟨_, rfl⟩ | ⟨e, _⟩
  · exact .of_eq (h kV doc pm an cdv ct us ws l1 l2)
  · exact absurd rfl e
theorem TxK.dfl {E : Ev} {x : Str} {st : Stmt} {ps : List Str} {kws : List (Str × V)} (T : TxK E x st kws) (n : Nat) {dws : List VV} (hk : kws ≠ []) (hn : n + kws.length = ps.length) (hd : ∀ H, Rvs E.K H (kws.map (·.2)) dws)
    (h : ∀ (D : Addr) (doc pm : Value) (an : Option Addr) (cdv ct : Value) (us ks : List Value), us.length = n → ks.length = kws.length →
      KwChain D ((kws.map (·.1)).zip ks) (bindArgs (PySem.W.fnOf x x (defArgs st) (defBody st) (defScope st) .none (.ref D) doc pm an cdv ct) ⟨us, []⟩) (ps.zip (us ++ ks))) : E.dfl x ps dws := by
  obtain ⟨f, fd, F, hm⟩ := T
  obtain ⟨ds, hv, hb⟩ := FunD.binds0 F n hk hn h
  exact ⟨f, fd, ds, _, hm, FunD.there F, hv, hd, hb⟩
section
variable {X : Cx} {E : Ev} {a b c e tg : Expr} {es : List Expr} {σ : St3} {M : Mp} {Q : VQ} {D : En} {pos : Pos} {x : Str} {i : Nat} {N : List Str} {sc : Scope} {fl : Bool} {k k' : Nat} {ps ks : List Str} {sp : Sp3}
def wK (X : Cx) (kws : List Keyword) : TA := fun σ H Q => ∀ (pos : Pos) pins s, Inv X pins σ H s → wpAny (model X.prog X.w) X.A (evalAll ((backToKw pos (keywordEach kws X.env)).map (·.2))) (AP X pins σ Q) X.xe s
theorem wK.pk {kws : List Keyword} : PK X kws (wK X kws) := ⟨fun po pins s σ H Q I h => h po pins s I⟩
theorem wK.of {kws : List Keyword} {t σ H Q} (p : PK X kws t) (h : t σ H Q) : wK X kws σ H Q := fun po pins s I => p.run po pins s σ H Q I h
def WK (X : Cx) (kws : List Keyword) (σ : St3) (M : Mp) (Q : List VV → Mp → Prop) : Prop := ∀ σ' H, Slots X.K H σ' σ → SimM X.K M H → wK X kws σ' H (PoA X.K H Q)
theorem wk_nil {A : List VV → Mp → Prop} (q : A [] M) : WK X [] σ M A := fun σ' H s m => wK.of pk_nil ⟨[], M, TM.refl, m, .nil, q⟩
theorem wk_cons {A : List VV → Mp → Prop} {nm : Option Str} {kpos : Pos} {kws : List Keyword} (h : WE X e σ M fun u M1 => WK X kws σ M1 fun us M2 => A (u :: us) M2) : WK X (⟨nm, e, kpos⟩ :: kws) σ M A := fun σ' H s m =>
  wK.of (pk_cons wE.pe wK.pk) (h.run s m fun v H1 u M1 t1 m1 r1 s1 q1 po pins st I => thn (q1 σ' H1 s1 m1 po pins st I) fun _ _ z => AP.mono z fun vs H2 ⟨us, M2, t2, m2, r2, q2⟩ => ⟨u :: us, M2, t1.trans t2, m2, .cons (Rv.mono t2 _ _ r1) r2, q2⟩)
theorem we_callN {p : Pos} {kws : List Keyword} {n : Nat} (B : E.bd N sc fl k X) (F : E.fn k' x ps sp) (G : E.bnd x ps n ks) (hk : k' ≤ k) (hg : sc.names.lookup x = some .globalImplicit)
    (h : WA X (e :: es) σ M fun us M1 => us.length = n ∧ WK X kws σ M1 fun ws M2 => ws.length = ks.length ∧ sp (us ++ ws) M2 Q)
    (hall : (backToKw pos (keywordEach kws X.env)).all (·.1.isSome) = true := by rfl) (hks : (backToKw pos (keywordEach kws X.env)).filterMap (·.1) = ks := by rfl)
    (hdb : (x == ("__debug__" : Str)) = false := by decide) (he : starEach (e :: es) X.env = (false, eval e X.env) :: starEach es X.env := by rfl)
    (hpl : ((backTo pos (starEach (e :: es) X.env)).any (·.1) || (backToKw pos (keywordEach kws X.env)).any (·.1.isNone)) = false := by rfl) : WE X (.Call (.Name x p) (e :: es) kws pos) σ M Q := by
  obtain ⟨P, w, K, mg, base, CX, hp⟩ := E
  obtain ⟨rfl, rfl, rfl, rfl, rfl, rfl, rfl, _, room, pas, _⟩ := B
  obtain ⟨f, fd, hmg, hkp, hf, oc, od, osl, lk⟩ := F
  obtain ⟨f', fd', hmg', ⟨oc', od', osl', lk'⟩, hb⟩ := G
  have e1 := hmg.symm.trans hmg'
  cases e1
  have e2 := lk.symm.trans lk'
  cases e2
  exact fun σ' H s m => wE.of (pe_callN (g := fun us ws => us ++ ws) (gV := fun us ws => us ++ ws) hf (room.mono hk) hg hmg hkp ⟨fun s us ws K' l1 l2 => hb s us ws K' l1 l2, fun r1 r2 => r1.append r2⟩ (pas X rfl rfl) wA.pa wK.pk hall hks hdb he hpl)
    (h.run s m fun vs H1 us M1 t1 m1 r1 s1 ⟨l1, q1⟩ po pins st I => thn (q1 σ' H1 s1 m1 po pins st I) fun _ _ z => AP.mono z fun vs2 H2 ⟨ws, M2, t2, m2, r2, l2, q2⟩ =>
      ⟨r1.length.trans l1, r2.length.trans l2, us ++ ws, M2, Q, m2, (Rvs.mono t2 _ _ r1).append r2, q2, fun u M' v H' q t3 m3 r3 => ⟨u, M', (t1.trans t2).trans t3, m3, r3, q⟩⟩)
/-- .. where the defaults fill up -/
theorem we_callD {p : Pos} {dws : List VV} (B : E.bd N sc fl k X) (F : E.fn k' x ps sp) (G : E.dfl x ps dws) (hk : k' ≤ k) (hg : sc.names.lookup x = some .globalImplicit)
    (h : WA X (e :: es) σ M fun ws M1 => sp (ws ++ dws) M1 Q) (hdb : (x == ("__debug__" : Str)) = false := by decide) (he : starEach (e :: es) X.env = (false, eval e X.env) :: starEach es X.env := by rfl) (hpl : (backTo pos (starEach es X.env)).any (·.1) = false := by rfl) :
    WE X (.Call (.Name x p) (e :: es) [] pos) σ M Q := by
  obtain ⟨P, w, K, mg, base, CX, hp⟩ := E
  obtain ⟨rfl, rfl, rfl, rfl, rfl, rfl, rfl, _, room, pas, _⟩ := B
  obtain ⟨f, fd, hmg, hkp, hf, oc, od, osl, lk⟩ := F
  obtain ⟨f', fd', ds, dvs, hmg', ⟨oc', od', osl', lk'⟩, hv, hd, hb⟩ := G
  have e1 := hmg.symm.trans hmg'
  cases e1
  have e2 := lk.symm.trans lk'
  cases e2
  exact fun σ' H s m => wE.of (pe_call hf (room.mono hk) hg hmg hkp hb hv (pas X rfl rfl) wA.pa hdb he hpl)
    (h.run s m fun vs H1 ws M1 t1 m1 r1 s1 q1 => ⟨ws ++ dws, M1, Q, m1, r1.append (hd H1), q1, fun u M' v H' q t2 m2 r2 => ⟨u, M', t1.trans t2, m2, r2, q⟩⟩)
/-! ### for x in reversed(range(n)) -/
theorem ws_forRev1 (B : E.bd N sc fl k X) {p p2 pos' pos2 : Pos} {body : List Stmt} (hg : sc.names.lookup ("range" : Str) = some .globalImplicit) (hm : E.mg "range" = none) (hg2 : sc.names.lookup ("reversed" : Str) = some .globalImplicit) (hm2 : E.mg "reversed" = none)
    (h : WE X a σ M fun u M1 => ∃ j : Int, u = .int j ∧ (-(2 ^ 62) ≤ j ∧ j < 2 ^ 62) ∧ Turns X tg body D j.toNat (fun i u => u = .int ((j.toNat : Int) - 1 - i)) (fun _ => True) σ M1)
    (hna : starEach [a] X.env = (false, eval a X.env) :: starEach [] X.env := by rfl) (hs : ∀ x, foldedSetIterable (.Call (.Name "reversed" p2) [.Call (.Name "range" p) [a] [] pos'] [] pos2) X.env x = pure x := by intro _; rfl) : WS X (.For tg (.Call (.Name "reversed" p2) [.Call (.Name "range" p) [a] [] pos'] [] pos2) body [] pos) σ M D := fun σ' H s m =>
  wS.of (ps_for B.own B.calm (pi_revR (by show X.env.scope.names.lookup _ = _; rw [B.esc]; exact hg2) (by rw [B.emg]; exact hm2) (prg_1 (by show X.env.scope.names.lookup _ = _; rw [B.esc]; exact hg) (by rw [B.emg]; exact hm) wE.pe hna)) wG.pg wSs.pss hs)
    (h.run s m fun v H1 u M1 t1 m1 r1 s1 ⟨j, e, ⟨l1, l2⟩, Pv, p0, _, ps, pe⟩ => by
      subst e
      cases r1
      refine ⟨j, rfl, by decide, by decide, l1, l2, ?_⟩
      rw [Int.sub_zero, Int.zero_add]
      refine for_rangeC (fun i => PoS X.K H (Pv i)) ⟨σ, M1, t1, s1, m1, p0⟩ (fun i σ2 H2 hi ⟨σ3, M3, t3, s3, m3, p3⟩ => ?_) fun σ2 H2 ⟨σ3, M3, t3, s3, m3, p3⟩ => ⟨σ3, M3, t3, s3, m3, pe _ _ p3⟩
      have e : ((j.toNat : Int) - 1 + (i : Int) * (-1)) = (j.toNat : Int) - 1 - i := by omega
      exact ((ps i _ σ3 M3 hi rfl p3).at t3 s3 m3 (by rw [e]; exact .int _)).mono fun σ4 H4 ⟨σ5, M5, t5, s5, m5, q5⟩ => q5.at t5 s5 m5)
/-! ### lists -/
theorem oc_min (hc : X.calm = true) {w : VV} {ns : List Int} (h : Lst M w (ns.map .int)) (h0 : 0 < ns.length) (q : ∀ m, m ∈ ns → (∀ y ∈ ns, m ≤ y) → Q (.int m) M) : OC X (.builtin "min") [w] M Q := fun H vs m r => by
  cases r with
  | cons r1 r2 =>
    cases r2
    obtain ⟨ad, vs, rfl, h1, h2⟩ := h.v m r1
    rw [h2.ints] at h1
    exact wCall.of (cr_min hc) ⟨ad, ns, rfl, h1, h0, fun z hz hl => .mk m (.int _) (q z hz hl)⟩
theorem oc_maxL (hc : X.calm = true) {w : VV} {ns : List Int} (h : Lst M w (ns.map .int)) (h0 : 0 < ns.length) (q : ∀ m, m ∈ ns → (∀ y ∈ ns, y ≤ m) → Q (.int m) M) : OC X (.builtin "max") [w] M Q := fun H vs m r => by
  cases r with
  | cons r1 r2 =>
    cases r2
    obtain ⟨ad, vs, rfl, h1, h2⟩ := h.v m r1
    rw [h2.ints] at h1
    exact wCall.of (cr_max hc) ⟨ad, ns, rfl, h1, h0, fun z hz hl => .mk m (.int _) (q z hz hl)⟩
/-- a new list, both sides of the walk's own -/
theorem o2_cat {p r : Addr} {us ws : List VV} (h1 : M p = some (.lst us)) (h2 : M r = some (.lst ws)) (hz : us.length + ws.length ≤ sizeLine) (q : ∀ l, M l = none → Q (.ref l) (updM M l (.lst (us ++ ws)))) : O2 X (binaryOp .Add) (.ref p) (.ref r) M Q := fun H v u m r1 r2 => by
  cases r1; cases r2
  obtain ⟨vs, g1, g2⟩ := m _ _ h1
  obtain ⟨vs', g3, g4⟩ := m _ _ h2
  exact wOp.of op_cat ⟨p, r, vs, vs', rfl, rfl, g1, g3, by rw [g2.length, g4.length]; exact hz, fun l hl => ⟨.ref l, _, TM.fresh hl, m.putL (TM.fresh hl) (.inl hl) (g2.append g4), .ref l, q l (m.no hl)⟩⟩
/-- what holds ints: a list or a tuple -/
inductive IntsW (M : Mp) : VV → List Int → Prop
  | lst {w ns} : Lst M w (ns.map .int) → IntsW M w ns
  | tup (ns) : IntsW M (.tup (ns.map .int)) ns
theorem IntsW.le {M' : Mp} {w : VV} {ns : List Int} (h : IntsW M w ns) (l : LeM M M') : IntsW M' w ns := by
  cases h with
  | lst h => exact .lst (h.le l)
  | tup => exact .tup _
theorem inV_ints (i : Int) (ns : List Int) : inV (.int i) (ns.map V.int) = decide (i ∈ ns) := by
  unfold inV
  induction ns with
  | nil => rfl
  | cons n ns ih =>
    rw [List.map_cons, List.any_cons, ih]
    show ((n == i) || decide (i ∈ ns)) = decide (i ∈ n :: ns)
    rw [Bool.eq_iff_iff, Bool.or_eq_true, beq_iff_eq, decide_eq_true_eq, decide_eq_true_eq, List.mem_cons]
    exact ⟨fun h => h.elim (fun e => .inl e.symm) .inr, fun h => h.elim (fun e => .inl e.symm) .inr⟩
theorem flat_ints (ns : List Int) : (ns.map V.int).all flatV = true := by
  induction ns with
  | nil => rfl
  | cons n ns ih => rw [List.map_cons, List.all_cons, ih]; rfl
theorem o2_in {i : Int} {w : VV} {ns : List Int} (h : IntsW M w ns) (q : Q (.bl (decide (i ∈ ns))) M) : O2 X (compareOp .In) (.int i) w M Q := fun H v u m r1 r2 => by
  cases r1
  cases h with
  | lst h =>
    obtain ⟨ad, vs, rfl, h1, h2⟩ := h.v m r2
    rw [h2.ints] at h1
    exact wOp.of op_in_seq ⟨ad, _, rfl, .inl h1, rfl, flat_ints ns, .mk m (.bl _) (by rw [if_neg Bool.false_ne_true, inV_ints]; exact q)⟩
  | tup =>
    obtain ⟨ad, vs, rfl, h1, h2⟩ := r2.tupv
    rw [h2.ints] at h1
    exact wOp.of op_in_seq ⟨ad, _, rfl, .inr h1, rfl, flat_ints ns, .mk m (.bl _) (by rw [if_neg Bool.false_ne_true, inV_ints]; exact q)⟩
theorem o2_notin {i : Int} {w : VV} {ns : List Int} (h : IntsW M w ns) (q : Q (.bl (!decide (i ∈ ns))) M) : O2 X (compareOp .NotIn) (.int i) w M Q := fun H v u m r1 r2 => by
  cases r1
  cases h with
  | lst h =>
    obtain ⟨ad, vs, rfl, h1, h2⟩ := h.v m r2
    rw [h2.ints] at h1
    exact wOp.of op_notIn_seq ⟨ad, _, rfl, .inl h1, rfl, flat_ints ns, .mk m (.bl _) (by rw [if_pos rfl, inV_ints]; exact q)⟩
  | tup =>
    obtain ⟨ad, vs, rfl, h1, h2⟩ := r2.tupv
    rw [h2.ints] at h1
    exact wOp.of op_notIn_seq ⟨ad, _, rfl, .inr h1, rfl, flat_ints ns, .mk m (.bl _) (by rw [if_pos rfl, inV_ints]; exact q)⟩
/-- xs.insert(i, y) -/
theorem ws_insert {apos cpos : Pos} (h : WE X a σ M fun l M1 => ∃ p ws0, l = .ref p ∧ M1 p = some (.lst ws0) ∧ WE X b σ M1 fun iv M2 => WE X c σ M2 fun y M3 => ∃ (j : Int) (ws : List VV), iv = .int j ∧ M3 p = some (.lst ws) ∧ ws.length < sizeLine ∧ 0 ≤ j ∧ j < 2 ^ 63 ∧ D.nx σ (updM M3 p (.lst (ws.take j.toNat ++ [y] ++ ws.drop j.toNat))))
    (hs : swapsWith (.Call (.Attribute a "insert" apos) [b, c] [] cpos) none pos.line X.env = pure false := by rfl)
    (hbase : attributeBase a "insert" X.env (eval a X.env) = eval a X.env := by rfl)
    (hfew : ((backTo cpos (starEach [b, c] X.env)).all (fun x => !x.1) && (backToKw cpos (keywordEach [] X.env)).all (fun x => x.1.isSome)
      && decide (([b, c] : List Expr).length + ([] : List Keyword).length + (if ([] : List Keyword).isEmpty then 0 else 1) < 30)) = true := by rfl)
    (hline : (apos.endLine == cpos.line) = true := by rfl) (hst : starEach [b, c] X.env = (false, eval b X.env) :: starEach [c] X.env := by rfl) (hst2 : starEach [c] X.env = (false, eval c X.env) :: starEach [] X.env := by rfl) (hplain : (backTo cpos (starEach [c] X.env)).any (·.1) = false := by rfl) :
    WS X (.Expr (.Call (.Attribute a "insert" apos) [b, c] [] cpos) pos) σ M D := fun σ' H s m =>
  wS.of (ps_expr (pe_bm (e := b) (es := [c]) PySem.F.plainAttrs_list PySem.F.slot_list_insert PySem.F.type_list_insert mt_insert wE.pe (pa_cons wE.pe (pa_cons wE.pe pa_nil hst2) hst) hbase hfew hline hst hplain) hs)
    (h.run s m fun v H1 l M1 t1 m1 r1 s1 ⟨p, ws0, e1, e2, q1⟩ => by
      subst e1; cases r1
      obtain ⟨vs0, h0, _⟩ := m1 _ _ e2
      exact ⟨.inl ⟨rfl, vs0, SqL.of h0⟩, q1.run s1 m1 fun u H2 iv M2 t2 m2 r2 s2 q2 => q2.run s2 m2 fun u3 H3 y M3 t3 m3 r3 s3 ⟨j, ws, e3, e4, hl, j0, j1, q⟩ => by
          subst e3; cases r2
          obtain ⟨vs, h1, h2⟩ := m3 _ _ e4
          exact ⟨p, vs, j, u3, rfl, rfl, h1, by rw [h2.length]; exact hl, j0, j1, σ, _, ((t1.trans t2).trans t3).trans (TM.lst h1), s3.mono (TM.lst h1), m3.putL (TM.lst h1) (.inr ⟨_, e4⟩) (((h2.take _).append (.cons r3 .nil)).append (h2.drop _)), q⟩⟩)
end
/-! ### comprehensions with a test -/
section
variable {X : Cx} {a c e tg : Expr} {σ : St3} {M : Mp} {Q : VQ} {D : En} {pos spos : Pos} {x : Str} {i : Nat}
variable {P : Program} {w : World} {K : PySem.W.Frag} {mg : Str → Option Value} {base : Heap} {CX : CXT} {N : List Str} {sc : Scope} {fl : Bool} {k : Nat}
def CompT (P : Program) (w : World) (K : PySem.W.Frag) (mg : Str → Option Value) (base : Heap) (CX : CXT) (N : List Str) (sc' : Scope) (k : Nat) (elt c : Expr) (i : Nat) (Q : VQ) (n : Nat) (it : Nat → VV → Prop) (hold : Mp → Prop) (σ : St3) (M : Mp) : Prop := ∀ D, M D = none → ∃ Pv : Nat → Mp → Prop, Pv 0 (updM M D (.lst [])) ∧ (∀ j M, j ≤ n → Pv j M → hold M) ∧
  (∀ Y : Cx, Bd P w K mg base CX N sc' false k Y → ∀ j u M, j < n → it j u → Pv j M → WT Y c (σ.set i (some u)) M fun t M1 => if t = true then (∀ Y' : Cx, Bd P w K mg base CX N sc' false k Y' → WE Y' elt (σ.set i (some u)) M1 fun y M2 => ∃ acc, M2 D = some (.lst acc) ∧ acc.length < sizeLine ∧ Pv (j + 1) (updM M2 D (.lst (acc ++ [y])))) else Pv (j + 1) M1) ∧ ∀ M, Pv n M → Q (.ref D) M
abbrev ttB (X : Cx) (scope : Scope) (c : Expr) : TT := fun σ H R => ∀ s0 H0 C cl fp, wT (X.blk s0 H0 scope (compEnvC scope cl C X.env) fp) c σ H R
theorem lcLT_read (B : Bd P w K mg base CX N sc fl k X) {elt : Expr} {scope : Scope} (h : WE X e σ M fun u M1 => ∃ ws, Lst M1 u ws ∧ CompT P w K mg base CX N (scBlk scope sc) k elt c i Q ws.length (fun j z => ws[j]? = some z) (fun M => Lst M u ws) σ M1)
    {σ' : St} {H : Hp} (s : Slots X.K H σ' σ) (m : SimM X.K M H) {Qv : VK} (hQ : ∀ v H', PoE X.K H Q v H' → Qv v H') : tLc (iList X.K (wE X e)) (gName i) (ttB X scope c) (teB X scope elt) [i] σ' H Qv := by
  refine h.run s m fun v H1 u M1 t1 m1 r1 s1 ⟨ws, hl, q1⟩ => ?_
  obtain ⟨ad, vs, rfl, h1, h2⟩ := hl.v m1 r1
  refine ⟨ad, rfl, ⟨vs, h1⟩, fun D hD => ?_⟩
  obtain ⟨Pv, p0, ph, ps, pe⟩ := q1 D (m1.no hD)
  have tD : TM H1 (upd H1 D (.lst [])) := TM.fresh hD
  refine ⟨fun j n H2 => n = ws.length - j ∧ j ≤ ws.length ∧ ∃ M2, TM H1 H2 ∧ SimM X.K M2 H2 ∧ Pv j M2, ⟨_, rfl, Nat.zero_le _, _, tD, m1.putL tD (.inl hD) .nil, p0⟩, ?_⟩
  rintro j n H2 ⟨rfl, hj, M2, t2, m2, p2⟩
  have hl2 := ph j M2 hj p2
  obtain ⟨ad', vs2, e', h3, h4⟩ := hl2.v m2 (Rv.mono t2 _ _ r1)
  cases e'
  have hlen := h4.length
  by_cases hlt : j < ws.length
  · obtain ⟨y, hy, ry⟩ := h4.get (i := j) (w := ws[j]) (by simp [hlt])
    refine .inr ⟨⟨vs2, y, h3, hy⟩, fun H' => ∃ M', TM H1 H' ∧ SimM X.K M' H' ∧ Pv (j + 1) M', fun H' z => ⟨_, by omega, rfl, hlt, z⟩, fun y' H' hy' => ?_⟩
    obtain ⟨rfl, hy'⟩ := hy'
    have ey := hy' vs2 h3
    rw [hy] at ey
    cases ey
    refine ⟨wipe1, ?_⟩
    show ∀ s0 H0 C cl fp, wT (X.blk s0 H0 scope (compEnvC scope cl C X.env) fp) c _ _ _
    intro s0 H0 C cl fp
    have Y := B.blk s0 H0 scope C cl fp
    rw [B.rel] at Y
    have hset : (wipe σ' [i]).set i (some y) = σ'.set i (some y) := by
      show (σ'.set i none).set i (some y) = _
      rw [List.set_set]
    have z := ps _ Y j ws[j] M2 hlt (by simp [hlt]) p2
    have s2 : Slots X.K H' ((wipe σ' [i]).set i (some y)) (σ.set i (some ws[j])) := by rw [hset]; exact (s1.mono t2).set i ry
    refine WT.run z s2 m2 fun b H3 M3 t3 m3 s3 q3 => ?_
    cases b with
    | false => rw [if_neg Bool.false_ne_true] at q3 ⊢; exact ⟨M3, t2.trans t3, m3, q3⟩
    | true =>
      rw [if_pos rfl] at q3 ⊢
      intro s0' H0' C' cl' fp'
      have Y' := B.blk s0' H0' scope C' cl' fp'
      rw [B.rel] at Y'
      refine (q3 _ Y' _ H3 (s2.mono t3) m3).mono fun y3 H4 ⟨w3, M4, t4, m4, r4, acc, e4, l4, p4⟩ => ?_
      obtain ⟨va, h5, h6⟩ := m4 _ _ e4
      exact ⟨va, h5, by rw [h6.length]; exact l4, _, ((t2.trans t3).trans t4).trans (TM.lst h5), m4.putL (TM.lst h5) (.inr ⟨_, e4⟩) (h6.append (.cons r4 .nil)), p4⟩
  · refine .inl ⟨⟨vs2, h3, by omega⟩, hQ _ _ ⟨.ref D, M2, t1.trans t2, m2, .ref D, pe M2 ?_⟩⟩
    have : j = ws.length := by omega
    subst this; exact p2
theorem lcRT_read (B : Bd P w K mg base CX N sc fl k X) {elt : Expr} {scope : Scope} (h : WA X [a] σ M fun us M1 => ∃ jj : Int, us = [.int jj] ∧ (-(2 ^ 62) ≤ jj ∧ jj < 2 ^ 62) ∧ CompT P w K mg base CX N (scBlk scope sc) k elt c i Q jj.toNat (fun j z => z = .int j) (fun _ => True) σ M1)
    {σ' : St} {H : Hp} (s : Slots X.K H σ' σ) (m : SimM X.K M H) {Qv : VK} (hQ : ∀ v H', PoE X.K H Q v H' → Qv v H') : tLc (iRng1 (wA X [a])) (gName i) (ttB X scope c) (teB X scope elt) [i] σ' H Qv := by
  refine h.run s m fun v H1 u M1 t1 m1 r1 s1 ⟨jj, e, ⟨l1, l2⟩, q1⟩ => ?_
  subst e
  cases r1 with | cons r1 r2 =>
  cases r1; cases r2
  refine ⟨jj, rfl, l1, l2, fun D hD => ?_⟩
  obtain ⟨Pv, p0, ph, ps, pe⟩ := q1 D (m1.no hD)
  have tD : TM H1 (upd H1 D (.lst [])) := TM.fresh hD
  refine ⟨fun j n H2 => n = jj.toNat - j ∧ j ≤ jj.toNat ∧ ∃ M2, TM H1 H2 ∧ SimM X.K M2 H2 ∧ Pv j M2, ⟨_, rfl, Nat.zero_le _, _, tD, m1.putL tD (.inl hD) .nil, p0⟩, ?_⟩
  rintro j n H2 ⟨rfl, hj, M2, t2, m2, p2⟩
  by_cases hlt : j < jj.toNat
  · refine .inr ⟨hlt, fun H' => ∃ M', TM H1 H' ∧ SimM X.K M' H' ∧ Pv (j + 1) M', fun H' z => ⟨_, by omega, rfl, hlt, z⟩, fun y' H' hy' => ?_⟩
    obtain ⟨rfl, rfl⟩ := hy'
    refine ⟨wipe1, ?_⟩
    show ∀ s0 H0 C cl fp, wT (X.blk s0 H0 scope (compEnvC scope cl C X.env) fp) c _ _ _
    intro s0 H0 C cl fp
    have Y := B.blk s0 H0 scope C cl fp
    rw [B.rel] at Y
    have hset : (wipe σ' [i]).set i (some (V.int (0 + (j : Int)))) = σ'.set i (some (V.int (0 + (j : Int)))) := by
      show (σ'.set i none).set i (some (V.int (0 + (j : Int)))) = _
      rw [List.set_set]
    have z := ps _ Y j (.int j) M2 hlt rfl p2
    have s2 : Slots X.K H' ((wipe σ' [i]).set i (some (V.int (0 + (j : Int))))) (σ.set i (some (.int j))) := by rw [hset]; exact (s1.mono t2).set i (by rw [Int.zero_add]; exact .int _)
    refine WT.run z s2 m2 fun b H3 M3 t3 m3 s3 q3 => ?_
    cases b with
    | false => rw [if_neg Bool.false_ne_true] at q3 ⊢; exact ⟨M3, t2.trans t3, m3, q3⟩
    | true =>
      rw [if_pos rfl] at q3 ⊢
      intro s0' H0' C' cl' fp'
      have Y' := B.blk s0' H0' scope C' cl' fp'
      rw [B.rel] at Y'
      refine (q3 _ Y' _ H3 (s2.mono t3) m3).mono fun y3 H4 ⟨w3, M4, t4, m4, r4, acc, e4, l4, p4⟩ => ?_
      obtain ⟨va, h5, h6⟩ := m4 _ _ e4
      exact ⟨va, h5, by rw [h6.length]; exact l4, _, ((t2.trans t3).trans t4).trans (TM.lst h5), m4.putL (TM.lst h5) (.inr ⟨_, e4⟩) (h6.append (.cons r4 .nil)), p4⟩
  · refine .inl ⟨(by show jj.toNat ≤ j; omega), hQ _ _ ⟨.ref D, M2, t1.trans t2, m2, .ref D, pe M2 ?_⟩⟩
    have : j = jj.toNat := by omega
    subst this; exact p2
section
variable {elt : Expr} {scope : Scope} {px : Pos}
theorem Bd.ptB {P : Program} {w : World} {K : PySem.W.Frag} {mg : Str → Option Value} {base : Heap} {CX : CXT} {N : List Str} {sc : Scope} {fl : Bool} {k : Nat} (B : Bd P w K mg base CX N sc fl k X) (s0 : Shared) (H0 : Hp) (C : Addr) (cl : List (Str × Addr)) (fp : List Addr) : PTs (X.blk s0 H0 scope (compEnvC scope cl C X.env) fp) [c] (ttB X scope c) :=
  pts_one ⟨fun pins s σ H R I h => h s0 H0 C cl fp pins s I⟩
theorem we_lcLstT (B : Bd P w K mg base CX N sc fl k X) (hi : At N i x) (hok : blkC N sc scope [(x, i)] = true) (hx : (scBlk scope sc).names.lookup x = some .local)
    (h : WE X e σ M fun u M1 => ∃ ws, Lst M1 u ws ∧ CompT P w K mg base CX N (scBlk scope sc) k elt c i Q ws.length (fun j z => ws[j]? = some z) (fun M => Lst M u ws) σ M1)
    (hs : ∀ x, foldedSetIterable e X.env x = pure x := by intro _; rfl) : WE X (.ListComp elt [⟨.Name x px, e, [c], 0⟩] scope pos) σ M Q := fun σ' H s m =>
  wE.of (pe_lc (own := [(x, i)]) (tt := ttB X scope c) (g := gName i) (te := teB X scope elt) B.calm (by rw [B.eN]; exact B.nd) (pi_list wE.pe) (by rw [B.eN, B.esc]; exact blkOk_by hok)
    (B.pgB hi hx) (fun s0 H0 C cl fp => B.ptB s0 H0 C cl fp) (fun s0 H0 C cl fp => ⟨fun pins s σ H R I h => h s0 H0 C cl fp pins s I⟩) hs) (lcLT_read B h s m fun _ _ z => z)
theorem we_lcRange1T (B : Bd P w K mg base CX N sc fl k X) {p pos' : Pos} (hi : At N i x) (hok : blkC N sc scope [(x, i)] = true) (hx : (scBlk scope sc).names.lookup x = some .local) (hg : sc.names.lookup ("range" : Str) = some .globalImplicit) (hm : mg "range" = none)
    (h : WA X [a] σ M fun us M1 => ∃ jj : Int, us = [.int jj] ∧ (-(2 ^ 62) ≤ jj ∧ jj < 2 ^ 62) ∧ CompT P w K mg base CX N (scBlk scope sc) k elt c i Q jj.toNat (fun j z => z = .int j) (fun _ => True) σ M1)
    (hsp : starEach [a] X.env = [(false, eval a X.env)] := by rfl) (hs : ∀ x, foldedSetIterable (.Call (.Name "range" p) [a] [] pos') X.env x = pure x := by intro _; rfl) : WE X (.ListComp elt [⟨.Name x px, .Call (.Name "range" p) [a] [] pos', [c], 0⟩] scope pos) σ M Q := fun σ' H s m =>
  wE.of (pe_lc (own := [(x, i)]) (tt := ttB X scope c) (g := gName i) (te := teB X scope elt) B.calm (by rw [B.eN]; exact B.nd) (pi_range1 (by show X.env.scope.names.lookup _ = _; rw [B.esc]; exact hg) (by rw [B.emg]; exact hm) wA.pa hsp) (by rw [B.eN, B.esc]; exact blkOk_by hok)
    (B.pgB hi hx) (fun s0 H0 C cl fp => B.ptB s0 H0 C cl fp) (fun s0 H0 C cl fp => ⟨fun pins s σ H R I h => h s0 H0 C cl fp pins s I⟩) hs) (lcRT_read B h s m fun _ _ z => z)
theorem ws_setLcLstT (B : Bd P w K mg base CX N sc fl k X) {y : Str} {py : Pos} {iy : Nat} (hiy : At N iy y) (hyl : sc.names.lookup y = some .local) (hsw : swapsWith (.ListComp elt [⟨.Name x px, e, [c], 0⟩] scope pos) (some (.Name y py)) spos.line (cenv sc) = pure true) (hi : At N i x) (hok : blkC N sc scope [(x, i)] = true) (hx : (scBlk scope sc).names.lookup x = some .local)
    (h : WE X e σ M fun u M1 => ∃ ws, Lst M1 u ws ∧ CompT P w K mg base CX N (scBlk scope sc) k elt c i (fun u M1 => D.nx (σ.set iy (some u)) M1) ws.length (fun j z => ws[j]? = some z) (fun M => Lst M u ws) σ M1)
    (hs : ∀ x, foldedSetIterable e X.env x = pure x := by intro _; rfl) : WS X (.Assign [.Name y py] (.ListComp elt [⟨.Name x px, e, [c], 0⟩] scope pos) spos) σ M D := fun σ' H s m =>
  wS.of (ps_setLc (i := iy) (own := [(x, i)]) (tt := ttB X scope c) (g := gName i) (te := teB X scope elt) B.calm (by rw [B.eN]; exact B.nd) (by rw [B.eN]; exact hiy.get) (by rw [B.esc]; exact hyl) (by rw [swWith_of (env' := cenv sc) (by rw [B.esc]; rfl)]; exact hsw) (pi_list wE.pe) (by rw [B.eN, B.esc]; exact blkOk_by hok)
    (B.pgB hi hx) (fun s0 H0 C cl fp => B.ptB s0 H0 C cl fp) (fun s0 H0 C cl fp => ⟨fun pins s σ H R I h => h s0 H0 C cl fp pins s I⟩) hs) (lcLT_read B h s m fun v H' ⟨u, M', t, m', r, q⟩ => ⟨_, M', t, (s.mono t).set iy r, m', q⟩)
end
/-- a filter: what the test and the item are is pure -/
theorem compT_pure {α : Type} {elt : Expr} {sc' : Scope} {xs : List α} {v f : α → VV} {g : α → Bool} {u : VV} {R : VQ} (hl : Lst M u (xs.map v)) (hz : xs.length ≤ sizeLine)
    (ht : ∀ Y : Cx, Bd P w K mg base CX N sc' false k Y → ∀ (j : Nat) (z : α) M', xs[j]? = some z → LeM M M' → WT Y c (σ.set i (some (v z))) M' fun t M2 => t = g z ∧ LeM M' M2)
    (he : ∀ Y : Cx, Bd P w K mg base CX N sc' false k Y → ∀ (j : Nat) (z : α) M', xs[j]? = some z → g z = true → LeM M M' → WE Y elt (σ.set i (some (v z))) M' fun y M2 => y = f z ∧ LeM M' M2)
    (q : ∀ D, M D = none → Q (.ref D) (updM M D (.lst ((xs.filter g).map f)))) (hR : ∀ u M', Fgt Q u M' → R u M' := by exact fun _ _ h => h) : CompT P w K mg base CX N sc' k elt c i R (xs.map v).length (fun j z => (xs.map v)[j]? = some z) (fun M => Lst M u (xs.map v)) σ M := fun D hD => by
  refine ⟨fun j M' => LeM (updM M D (.lst (((xs.take j).filter g).map f))) M', LeM.refl, fun j M' _ h => hl.le ((LeM.new hD).trans h), fun Y B j z M' hj hz' h => ?_, fun M' h => hR _ _ ⟨_, h, ?_⟩⟩
  · have hz2 : (xs.map v)[j]? = some z := hz'
    clear hz'
    rw [List.getElem?_map] at hz2
    rw [List.length_map] at hj
    have hx : xs[j]? = some xs[j] := by simp [hj]
    rw [hx] at hz2
    cases hz2
    have e1 : xs.take (j + 1) = xs.take j ++ [xs[j]] := by rw [List.take_add_one, hx]; rfl
    refine fun σ' H s m => (ht Y B j _ M' hx ((LeM.new hD).trans h) σ' H s m).mono fun b H1 ⟨M1, t1, m1, eb, l1⟩ => ⟨M1, t1, m1, ?_⟩
    subst eb
    cases hg : g xs[j] with
    | false =>
      rw [if_neg Bool.false_ne_true]
      have e2 : ((xs.take (j + 1)).filter g).map f = ((xs.take j).filter g).map f := by
        rw [e1, List.filter_append, List.filter_cons, hg]
        simp
      show LeM (updM M D (.lst (((xs.take (j + 1)).filter g).map f))) M1
      rw [e2]
      exact h.trans l1
    | true =>
      rw [if_pos rfl]
      intro Y' B'
      refine (he Y' B' j _ M1 hx hg (((LeM.new hD).trans h).trans l1)).mono fun y M2 ⟨e, l⟩ => ⟨_, l _ _ (l1 _ _ (h D _ updM_same)), ?_, ?_⟩
      · rw [List.length_map]
        have := List.length_filter_le g (xs.take j)
        rw [List.length_take] at this
        omega
      · subst e
        have e2 : ((xs.take (j + 1)).filter g).map f = ((xs.take j).filter g).map f ++ [f xs[j]] := by
          rw [e1, List.filter_append, List.filter_cons, hg]
          simp
        have e3 := LeM.upd (p := D) (o := .lst (((xs.take (j + 1)).filter g).map f)) ((h.trans l1).trans l)
        rw [updM_updM] at e3
        show LeM (updM M D (.lst (((xs.take (j + 1)).filter g).map f))) _
        rw [e2] at e3 ⊢
        exact e3
  · rw [List.length_map, List.take_length]; exact q D hD
end
end G3

set_option Elab.async false
set_option linter.all false
set_option maxRecDepth 100000
set_option maxHeartbeats 4000000
/-! L3: heads with keyword-only defaults; lists of lists -/
namespace G3
open PySem PySem.Spec L2
/-- the keyword-only default x of the global def f, if it is an object -/
def kwAt (f x : Str) (K : PySem.W.Frag) : Addr := match K.lookup (He.fAd K (f, none)) with
  | some ⟨_, _, .func fd, _⟩ => (match fd.kwdefaults with
    | .ref D => (match PySem.W.nsIn K D x with
      | some (some (.ref a)) => a
      | _ => 0)
    | _ => 0)
  | _ => 0
def dDk (x : Str) (st : Stmt) (kws : List (Str × He.Dv)) : He.DefD := ⟨(x, none), x, x, defArgs st, defBody st, defScope st, [], kws⟩
/-- an empty tuple of the head -/
def nilB (K : PySem.W.Frag) (a : Addr) : Bool := match K.lookup a with
  | some ⟨.type c, _, .seq its _, _⟩ => decide (c = "tuple") && decide (its.size = 0)
  | _ => false
theorem nilB_ok {K : PySem.W.Frag} {a : Addr} (h : nilB K a = true) (H : Hp) : Rv K H (.ref a) (.tup []) := by
  unfold nilB at h
  cases q : K.lookup a with
  | none => rw [q] at h; cases h
  | some o =>
    obtain ⟨oc, od, dt, osl⟩ := o
    rw [q] at h
    cases oc with
    | type c =>
      cases dt with
      | seq its n =>
        obtain ⟨h1, h2⟩ := He.ba (show (decide (c = "tuple") && decide (its.size = 0)) = true from h)
        have e1 : c = "tuple" := of_decide_eq_true h1
        have e2 : its = #[] := Array.size_eq_zero_iff.mp (of_decide_eq_true h2)
        subst e1 e2
        exact rv_tupK q rfl rfl (by decide) .nil (fun _ => .nil) H
      | _ => cases h
    | _ => cases h
theorem TxK.mk {E : Ev} {h : Heap} {fa : List He.Fa} {fn : List He.DefD} (X : E.K.In h) (G : h.Ns mainGlobals E.mg) (c : He.SaysD fa fn E.K) (i j : Nat) {x : Str} {st : Stmt} {kws : List (Str × He.Dv)} (hd : fn[i]? = some (dDk x st kws)) (hg : fa[j]? = some (.glo x)) :
    TxK E x st (kws.map fun q => (q.1, q.2.v E.K)) := by
  obtain ⟨fd, F⟩ := c.def_ i hd
  exact ⟨_, fd, F, He.glo_ok X G (c.fact j hg)⟩
abbrev vn (n : Nat) : VV := .int (n : Int)
/-- lists of numbers, one after the other -/
inductive Els (M : Mp) : List VV → List (List Nat) → Prop
  | nil : Els M [] []
  | cons {a : Addr} {l : List Nat} {ps ls} : M a = some (.lst (l.map vn)) → Els M ps ls → Els M (.ref a :: ps) (l :: ls)
theorem Els.le {M M' : Mp} (h : LeM M M') {ps ls} (e : Els M ps ls) : Els M' ps ls := by
  induction e with
  | nil => exact .nil
  | cons h1 _ ih => exact .cons (h _ _ h1) ih
theorem Els.length {M : Mp} {ps ls} (e : Els M ps ls) : ps.length = ls.length := by
  induction e with
  | nil => rfl
  | cons h1 _ ih => simp [ih]
theorem Els.append {M : Mp} {ps ls ps' ls'} (e : Els M ps ls) (e' : Els M ps' ls') : Els M (ps ++ ps') (ls ++ ls') := by
  induction e with
  | nil => exact e'
  | cons h1 _ ih => exact .cons h1 ih
theorem Els.get {M : Mp} {ps ls} (e : Els M ps ls) : ∀ {i : Nat} {p}, ps[i]? = some p → ∃ a l, p = .ref a ∧ ls[i]? = some l ∧ M a = some (.lst (l.map vn)) := by
  induction e with
  | nil => intro i p h; cases h
  | cons h1 _ ih =>
    intro i p h
    cases i with
    | zero => cases h; exact ⟨_, _, rfl, rfl, h1⟩
    | succ i => exact ih h
theorem Els.filterC {M : Mp} {ps ls} (b : Bool) (e : Els M ps ls) : Els M (ps.filter fun _ => b) (ls.filter fun _ => b) := by
  cases b with
  | false => rw [List.filter_eq_nil_iff.mpr fun _ _ => Bool.false_ne_true, List.filter_eq_nil_iff.mpr fun _ _ => Bool.false_ne_true]; exact .nil
  | true => rw [List.filter_eq_self.mpr fun _ _ => rfl, List.filter_eq_self.mpr fun _ _ => rfl]; exact e
/-- such a list of lists -/
def LLs (M : Mp) (w : VV) (ls : List (List Nat)) : Prop := ∃ a ps, w = .ref a ∧ M a = some (.lst ps) ∧ Els M ps ls
theorem LLs.le {M M' : Mp} {w : VV} {ls : List (List Nat)} (h : LLs M w ls) (l : LeM M M') : LLs M' w ls := by
  obtain ⟨a, ps, h1, h2, h3⟩ := h
  exact ⟨a, ps, h1, l _ _ h2, h3.le l⟩
/-- a new object, then an item more in the list m -/
theorem LeM.app {M0 M' : Mp} {m r : Addr} {o x y : MO} (h : LeM (updM M0 m x) M') (hr : M' r = none) : LeM (updM (updM M0 r o) m y) (updM (updM M' r o) m y) := fun a u e => by
  by_cases h1 : a = m
  · subst h1; rw [updM_same] at e ⊢; exact e
  · rw [updM_ne h1] at e ⊢
    by_cases h2 : a = r
    · subst h2; rw [updM_same] at e ⊢; exact e
    · rw [updM_ne h2] at e ⊢
      exact h a u (by rw [updM_ne h1]; exact e)
theorem compT_pureV {c elt : Expr} {σ : St3} {M : Mp} {Q R : VQ} {i : Nat} {P : Program} {w : World} {K : PySem.W.Frag} {mg : Str → Option Value} {base : Heap} {CX : CXT} {N : List Str} {k : Nat} {sc' : Scope} {xs : List VV} {g : VV → Bool} {u : VV} (hl : Lst M u xs) (hz : xs.length ≤ sizeLine)
    (ht : ∀ Y : Cx, Bd P w K mg base CX N sc' false k Y → ∀ (j : Nat) (z : VV) M', xs[j]? = some z → LeM M M' → WT Y c (σ.set i (some z)) M' fun t M2 => t = g z ∧ LeM M' M2)
    (he : ∀ Y : Cx, Bd P w K mg base CX N sc' false k Y → ∀ (j : Nat) (z : VV) M', xs[j]? = some z → g z = true → LeM M M' → WE Y elt (σ.set i (some z)) M' fun y M2 => y = z ∧ LeM M' M2)
    (q : ∀ D, M D = none → Q (.ref D) (updM M D (.lst (xs.filter g)))) (hR : ∀ u M', Fgt Q u M' → R u M') : CompT P w K mg base CX N sc' k elt c i R xs.length (fun j z => xs[j]? = some z) (fun M => Lst M u xs) σ M := by
  have h := compT_pure (xs := xs) (v := fun p => p) (f := fun p => p) (g := g) (u := u) (R := R) (by rw [List.map_id']; exact hl) hz ht he (by intro D hD; rw [List.map_id']; exact q D hD) hR
  rw [List.map_id'] at h
  exact h
end G3

set_option Elab.async false
set_option linter.all false
set_option maxRecDepth 100000
set_option maxHeartbeats 4000000
/-! L3: pop, min of what has an order -/
namespace G3
open PySem PySem.Spec L2
theorem clsNe {a b : String} (h : a ≠ b) : (Value.type a) ≠ Value.type b := fun z => h (Value.type.inj z)
mutual
theorem readsU {h : Heap} : ∀ {v : Value} {d e : PyData} {as bs : List Addr}, Reads h v d as → Reads h v e bs → d = e
  | _, _, _, _, _, .none, r => by cases r; rfl
  | _, _, _, _, _, .bool _, r => by cases r; rfl
  | _, _, _, _, _, .int _ _, r => by cases r; rfl
  | _, _, _, _, _, .str _ _, r => by cases r; rfl
  | _, _, _, _, _, .list h1 h2 h3 h4, r => by
    cases r with
    | list k1 k2 k3 k4 =>
      cases h1.symm.trans k1
      cases h3.symm.trans k3
      rw [readsAllU h4 k4]
    | tuple k1 k2 k3 k4 => cases h1.symm.trans k1; exact absurd (h2.symm.trans k2) (clsNe (by decide))
    | dict k1 k2 k3 k4 => cases h1.symm.trans k1; exact absurd (h2.symm.trans k2) (clsNe (by decide))
  | _, _, _, _, _, .tuple h1 h2 h3 h4, r => by
    cases r with
    | list k1 k2 k3 k4 => cases h1.symm.trans k1; exact absurd (h2.symm.trans k2) (clsNe (by decide))
    | tuple k1 k2 k3 k4 =>
      cases h1.symm.trans k1
      cases h3.symm.trans k3
      rw [readsAllU h4 k4]
    | dict k1 k2 k3 k4 => cases h1.symm.trans k1; exact absurd (h2.symm.trans k2) (clsNe (by decide))
  | _, _, _, _, _, .dict h1 h2 h3 h4 h5, r => by
    cases r with
    | list k1 k2 k3 k4 => cases h1.symm.trans k1; exact absurd (h2.symm.trans k2) (clsNe (by decide))
    | tuple k1 k2 k3 k4 => cases h1.symm.trans k1; exact absurd (h2.symm.trans k2) (clsNe (by decide))
    | dict k1 k2 k3 k4 k5 =>
      cases h1.symm.trans k1
      cases h3.symm.trans k3
      have e1 := readsAllU h4 k4
      have e2 := readsAllU h5 k5
      congr 1
      refine List.ext_getElem? fun i => ?_
      have f1 := congrArg (fun l => l[i]?) e1
      have f2 := congrArg (fun l => l[i]?) e2
      simp only [List.getElem?_map] at f1 f2
      rename_i kvs _ _ kvs' _ _
      revert f1 f2
      cases kvs[i]? with
      | none => cases kvs'[i]? with
        | none => intro _ _; rfl
        | some z => intro f1; cases f1
      | some z => cases kvs'[i]? with
        | none => intro f1; cases f1
        | some z' =>
          intro f1 f2
          obtain ⟨a, b⟩ := z
          obtain ⟨c, d⟩ := z'
          cases f1; cases f2; rfl
theorem readsAllU {h : Heap} : ∀ {vs : List Value} {ds es : List PyData} {as bs : List Addr}, ReadsAll h vs ds as → ReadsAll h vs es bs → ds = es
  | _, _, _, _, _, .nil, r => by cases r; rfl
  | _, _, _, _, _, .cons h1 h2, r => by
    cases r with
    | cons k1 k2 => rw [readsU h1 k1, readsAllU h2 k2]
end
theorem readsAll_get {h : Heap} {vs : List Value} : ∀ {ds : List PyData} {as : List Addr} {i : Nat} {v : Value}, ReadsAll h vs ds as → vs[i]? = some v → ∃ d bs, ds[i]? = some d ∧ Reads h v d bs := by
  induction vs with
  | nil => intro ds as i v _ e; cases e
  | cons u us ih =>
    intro ds as i v r e
    cases r with
    | cons r1 r2 =>
      cases i with
      | zero => cases e; exact ⟨_, _, rfl, r1⟩
      | succ i =>
        obtain ⟨d, bs, z1, z2⟩ := ih (i := i) (v := v) r2 (by simpa using e)
        exact ⟨d, bs, by simpa using z1, z2⟩
theorem vals_get {vs : List V} : ∀ {us : List Value} {i : Nat} {u : Value}, Vals vs us → us[i]? = some u → ∃ v, vs[i]? = some v ∧ RelV v u := by
  induction vs with
  | nil => intro us i u r e; cases r; cases e
  | cons v vs ih =>
    intro us i u r e
    cases r with
    | cons r1 r2 =>
      cases i with
      | zero => cases e; exact ⟨_, rfl, r1⟩
      | succ i => exact ih r2 e
section
variable {X : Cx} {a b : Expr} {σ : St3} {M : Mp} {Q : VQ}
theorem we_popAt {apos cpos : Pos} (h : WE X a σ M fun l M1 => ∃ p ws0, l = .ref p ∧ M1 p = some (.lst ws0) ∧ WE X b σ M1 fun iv M2 => ∃ (j : Nat) (ws : List VV) (y : VV), iv = .int j ∧ M2 p = some (.lst ws) ∧ j < 2 ^ 62 ∧ ws[j]? = some y ∧ Q y (updM M2 p (.lst (ws.eraseIdx j))))
    (hbase : attributeBase a "pop" X.env (eval a X.env) = eval a X.env := by rfl)
    (hfew : ((backTo cpos (starEach [b] X.env)).all (fun x => !x.1) && (backToKw cpos (keywordEach [] X.env)).all (fun x => x.1.isSome)
      && decide (([b] : List Expr).length + ([] : List Keyword).length + (if ([] : List Keyword).isEmpty then 0 else 1) < 30)) = true := by rfl)
    (hline : (apos.endLine == cpos.line) = true := by rfl) (hst : starEach [b] X.env = (false, eval b X.env) :: starEach [] X.env := by rfl) (hplain : (backTo cpos (starEach [] X.env)).any (·.1) = false := by rfl) :
    WE X (.Call (.Attribute a "pop" apos) [b] [] cpos) σ M Q := fun σ' H s m =>
  wE.of (pe_bm (e := b) (es := []) PySem.F.plainAttrs_list PySem.F.slot_list_pop PySem.F.type_list_pop mt_popAt wE.pe (pa_cons wE.pe pa_nil hst) hbase hfew hline hst hplain)
    (h.run s m fun v H1 l M1 t1 m1 r1 s1 ⟨p, ws0, e1, e2, q1⟩ => by
      subst e1; cases r1
      obtain ⟨vs0, h0, _⟩ := m1 _ _ e2
      exact ⟨.inl ⟨rfl, vs0, SqL.of h0⟩, q1.run s1 m1 fun u H2 iv M2 t2 m2 r2 s2 ⟨j, ws, y, e3, e4, hj, hy, q⟩ => by
          subst e3; cases r2
          obtain ⟨vs, h1, h2⟩ := m2 _ _ e4
          obtain ⟨y', hy', ry⟩ := h2.get hy
          have hlt : j < vs.length := (List.getElem?_eq_some_iff.mp hy').1
          have hix : seqIndex? (j : Int) vs.length = some j := by
            have hn : ¬ ((j : Int) < 0) := by omega
            unfold seqIndex?
            simp [hn, hlt]
          exact ⟨p, vs, (j : Int), j, y', rfl, rfl, h1, by omega, by omega, hix, hy', y, _, (t1.trans t2).trans (TM.lst h1), m2.putL (TM.lst h1) (.inr ⟨_, e4⟩) (h2.eraseIdx j), Rv.mono (TM.lst h1) _ _ ry, q⟩⟩)
/-- min of a list whose items are data with an order: one that reads as the least -/
theorem oc_minD {α : Type} [DecidableEq α] [PySem.W.DatumOrd α] (hc : X.calm = true) {w : VV} {ws : List VV} {x : α} {xs : List α} (hu : X.A.units + 1 + PySem.W.Datum.depth α < cLine) (h : Lst M w ws) (hd : DWs M ws ((x :: xs).map PySem.W.Datum.toD))
    (q : ∀ (i : Nat) u, ws[i]? = some u → (x :: xs)[i]? = some (PySem.W.minOf x xs) → Q u M) : OC X (.builtin "min") [w] M Q := fun H vs m r => by
  cases r with
  | cons r1 r2 =>
    cases r2
    obtain ⟨ad, vs, rfl, h1, h2⟩ := h.v m r1
    intro pins s σ us I rv
    obtain ⟨its, rvs, hl, _⟩ := I.list h1
    rw [Vals.ref1 rv]
    have hall := Dp.readsAll I _ _ _ (hd.dp m _ _ _ h2) rvs
    obtain ⟨as, hall⟩ := hall
    refine PySem.W.min_list_datum (I.ok.hd hc) hl.isList (x := x) (xs := xs) ⟨as, by simpa using hall⟩ hu fun i v h' tk hi hv hk => ?_
    have hi' : its[i]? = some v := by simpa using hi
    obtain ⟨v0, hv0, rv0⟩ := vals_get rvs hi'
    obtain ⟨u, hu1, hu2⟩ := h2.get' hv0
    obtain ⟨d, bs, hd1, hd2⟩ := readsAll_get hall hi'
    obtain ⟨cs, hv⟩ := hv
    have e := readsU (PyProof.Rows.Reads.keeps hk hd2) hv
    rw [List.getElem?_map] at hd1
    obtain ⟨z, hz, ez⟩ := Option.map_eq_some_iff.mp hd1
    have ee : z = PySem.W.minOf x xs := by
      have e3 := PySem.W.Datum.eqv z z
      rw [decide_eq_true rfl] at e3
      have e4 := PySem.W.Datum.eqv z (PySem.W.minOf x xs)
      rw [← e, ← ez, e3] at e4
      exact of_decide_eq_true e4.symm
    rw [ee] at hz
    exact ⟨v0, H, I.kept hk, rv0, .mk m hu2 (q i u hu1 hz)⟩
end
end G3

set_option Elab.async false
set_option linter.all false
set_option maxRecDepth 100000
set_option maxHeartbeats 4000000
/-! L3: enumerate, zip; x in l of data -/
namespace G3
open PySem PySem.Spec L2
section
variable {X : Cx} {a b c e tg : Expr} {es : List Expr} {st : Stmt} {σ : St3} {M : Mp} {Q : VQ} {D : En} {pos : Pos} {x : Str} {i : Nat}
variable {P : Program} {w : World} {K : PySem.W.Frag} {mg : Str → Option Value} {base : Heap} {CX : CXT} {N : List Str} {sc : Scope} {fl : Bool} {k : Nat}
theorem ws_forEnum (B : Bd P w K mg base CX N sc fl k X) {p pos' tpos : Pos} {elts : List Expr} {kk : Nat} {body : List Stmt} (hg : sc.names.lookup ("enumerate" : Str) = some .globalImplicit) (hm : mg "enumerate" = none)
    (h : WA X [e] σ M fun us M1 => ∃ u ws, us = [u] ∧ Lst M1 u ws ∧ Turns X (.Tuple elts kk tpos) body D ws.length (fun i v => ∃ w, ws[i]? = some w ∧ v = .tup [.int i, w]) (fun M => Lst M u ws) σ M1)
    (hsp : starEach [e] X.env = [(false, eval e X.env)] := by rfl) (hs : ∀ x, foldedSetIterable (.Call (.Name "enumerate" p) [e] [] pos') X.env x = pure x := by intro _; rfl) : WS X (.For (.Tuple elts kk tpos) (.Call (.Name "enumerate" p) [e] [] pos') body [] pos) σ M D := fun σ' H s m =>
  wS.of (ps_for B.own B.calm (pi_enum (by show X.env.scope.names.lookup _ = _; rw [B.esc]; exact hg) (by rw [B.emg]; exact hm) wA.pa hsp) wG.pg wSs.pss hs)
    (h.run s m fun vs0 H1 us M1 t1 m1 r1 s1 ⟨u, ws, eus, hl, Pv, p0, ph, ps, pe⟩ => by
      subst eus
      cases r1 with | cons r1 r2 =>
      cases r2
      obtain ⟨a, vs, rfl, h1, h2⟩ := hl.v m1 r1
      have stays : ∀ {H2 M2}, SimM X.K M2 H2 → Lst M2 u ws → TM H1 H2 → ∃ vs, SqL X.K H2 a vs ∧ Rvs X.K H2 vs ws := fun {H2 M2} m2 hl2 t => by
        obtain ⟨a', vs', e', q1, q2⟩ := hl2.v m2 (Rv.mono t _ _ r1)
        cases e'
        exact ⟨vs', q1, q2⟩
      refine ⟨a, vs, rfl, h1, fun i n σ2 H2 => n = ws.length - i ∧ i ≤ ws.length ∧ PoS X.K H1 (Pv i) σ2 H2, ⟨_, rfl, Nat.zero_le _, σ, M1, TM.refl, s1, m1, p0⟩, ?_⟩
      rintro i n σ2 H2 ⟨rfl, hi, σ3, M3, t3, s3, m3, p3⟩
      obtain ⟨vs, hv, rv⟩ := stays m3 (ph i σ3 M3 hi p3) t3
      have hlen := rv.length
      by_cases hlt : i < ws.length
      · obtain ⟨x, hx, rx⟩ := rv.get (i := i) (w := ws[i]) (by simp [hlt])
        refine .inr ⟨⟨vs, x, hv, hx⟩, PoS X.K H1 (Pv (i + 1)), fun σ' H' z => ⟨_, by omega, rfl, hlt, z⟩, fun y H' hy => ?_⟩
        obtain ⟨T, x', rfl, hT, rfl, hy⟩ := hy
        have ey := hy vs hv
        rw [hx] at ey
        cases ey
        have tT : TM H2 (upd H2 T (.tup [.int (i : Nat), x])) := TM.fresh hT
        have rT : Rv X.K (upd H2 T (.tup [.int (i : Nat), x])) (.ref T) (.tup [.int (i : Nat), ws[i]]) := .tup (SqT.of upd_same) (.cons (.int _) (.cons (Rv.mono tT _ _ rx) .nil))
        exact ((ps i _ σ3 M3 hlt ⟨ws[i], by simp [hlt], rfl⟩ p3).at (t3.trans tT) (s3.mono tT) (m3.alloc hT) rT).mono fun σ4 H4 ⟨σ5, M5, t5, s5, m5, q5⟩ => (q5.at t5 s5 m5).mono (fun _ _ z => z) (fun _ _ z => PoR.tr t1 z) (fun _ _ z => PoS.tr t1 z) (fun _ _ z => z)
      · refine .inl ⟨⟨vs, hv, by omega⟩, σ3, M3, t1.trans t3, s3, m3, pe σ3 M3 ?_⟩
        have : i = ws.length := by omega
        subst this; exact p3)
theorem ws_forZip (B : Bd P w K mg base CX N sc fl k X) {e2 : Expr} {p pos' tpos : Pos} {elts : List Expr} {kk : Nat} {body : List Stmt} (hg : sc.names.lookup ("zip" : Str) = some .globalImplicit) (hm : mg "zip" = none)
    (h : WA X [e, e2] σ M fun us M1 => ∃ u u2 ws ws2, us = [u, u2] ∧ Lst M1 u ws ∧ Lst M1 u2 ws2 ∧ Turns X (.Tuple elts kk tpos) body D (min ws.length ws2.length) (fun i v => ∃ w w2, ws[i]? = some w ∧ ws2[i]? = some w2 ∧ v = .tup [w, w2]) (fun M => Lst M u ws ∧ Lst M u2 ws2) σ M1)
    (hst : starEach [e, e2] X.env = (false, eval e X.env) :: starEach [e2] X.env := by rfl) (hpl : (backTo pos' (starEach [e2] X.env)).any (·.1) = false := by rfl) (hs : ∀ x, foldedSetIterable (.Call (.Name "zip" p) [e, e2] [] pos') X.env x = pure x := by intro _; rfl) : WS X (.For (.Tuple elts kk tpos) (.Call (.Name "zip" p) [e, e2] [] pos') body [] pos) σ M D := fun σ' H s m =>
  wS.of (ps_for B.own B.calm (pi_zip (by show X.env.scope.names.lookup _ = _; rw [B.esc]; exact hg) (by rw [B.emg]; exact hm) wA.pa hst hpl) wG.pg wSs.pss hs)
    (h.run s m fun vs0 H1 us M1 t1 m1 r1 s1 ⟨u, u2, ws, ws2, eus, hl, hl2, Pv, p0, ph, ps, pe⟩ => by
      subst eus
      cases r1 with | cons r1 r2 =>
      cases r2 with | cons r2 r3 =>
      cases r3
      obtain ⟨a, vs, rfl, h1, h2⟩ := hl.v m1 r1
      obtain ⟨a2, vs2, rfl, h12, h22⟩ := hl2.v m1 r2
      have stays : ∀ {H2 M2}, SimM X.K M2 H2 → Lst M2 u ws ∧ Lst M2 u2 ws2 → TM H1 H2 → ∃ vs vs2, SqL X.K H2 a vs ∧ Rvs X.K H2 vs ws ∧ SqL X.K H2 a2 vs2 ∧ Rvs X.K H2 vs2 ws2 := fun {H2 M2} m2 hl2 t => by
        obtain ⟨a', vs', e', q1, q2⟩ := hl2.1.v m2 (Rv.mono t _ _ r1)
        obtain ⟨a'', vs'', e'', q1', q2'⟩ := hl2.2.v m2 (Rv.mono t _ _ r2)
        cases e'
        cases e''
        exact ⟨vs', vs'', q1, q2, q1', q2'⟩
      refine ⟨a, a2, vs, vs2, rfl, h1, h12, fun i n σ2 H2 => n = min ws.length ws2.length - i ∧ i ≤ min ws.length ws2.length ∧ PoS X.K H1 (Pv i) σ2 H2, ⟨_, rfl, Nat.zero_le _, σ, M1, TM.refl, s1, m1, p0⟩, ?_⟩
      rintro i n σ2 H2 ⟨rfl, hi, σ3, M3, t3, s3, m3, p3⟩
      obtain ⟨vs, vs2, hv, rv, hv2, rv2⟩ := stays m3 (ph i σ3 M3 hi p3) t3
      have hlen := rv.length
      have hlen2 := rv2.length
      by_cases hlt : i < min ws.length ws2.length
      · have hlt1 : i < ws.length := by omega
        have hlt2 : i < ws2.length := by omega
        obtain ⟨x, hx, rx⟩ := rv.get (i := i) (w := ws[i]) (by simp [hlt1])
        obtain ⟨x2, hx2, rx2⟩ := rv2.get (i := i) (w := ws2[i]) (by simp [hlt2])
        refine .inr ⟨⟨vs, vs2, x, x2, hv, hv2, hx, hx2⟩, PoS X.K H1 (Pv (i + 1)), fun σ' H' z => ⟨_, by omega, rfl, hlt, z⟩, fun y H' hy => ?_⟩
        obtain ⟨T, x', y', rfl, hT, rfl, hy, hy2⟩ := hy
        have ey := hy vs hv
        have ey2 := hy2 vs2 hv2
        rw [hx] at ey
        rw [hx2] at ey2
        cases ey
        cases ey2
        have tT : TM H2 (upd H2 T (.tup [x, x2])) := TM.fresh hT
        have rT : Rv X.K (upd H2 T (.tup [x, x2])) (.ref T) (.tup [ws[i], ws2[i]]) := .tup (SqT.of upd_same) (.cons (Rv.mono tT _ _ rx) (.cons (Rv.mono tT _ _ rx2) .nil))
        exact ((ps i _ σ3 M3 hlt ⟨ws[i], ws2[i], by simp [hlt1], by simp [hlt2], rfl⟩ p3).at (t3.trans tT) (s3.mono tT) (m3.alloc hT) rT).mono fun σ4 H4 ⟨σ5, M5, t5, s5, m5, q5⟩ => (q5.at t5 s5 m5).mono (fun _ _ z => z) (fun _ _ z => PoR.tr t1 z) (fun _ _ z => PoS.tr t1 z) (fun _ _ z => z)
      · refine .inl ⟨⟨vs, vs2, hv, hv2, by omega⟩, σ3, M3, t1.trans t3, s3, m3, pe σ3 M3 ?_⟩
        have : i = min ws.length ws2.length := by omega
        subst this; exact p3)
theorem o2_inD {α : Type} [DecidableEq α] [PySem.W.Datum α] {u v : VV} {x : α} {xs : List α} (hu : X.A.units + 65 < cLine) (h1 : DW M u (PySem.W.Datum.toD x)) (h2 : DW M v (PySem.W.Datum.toD xs)) (s1 : SeqAt.shaped (PySem.W.Datum.toD x) = true) (s2 : SeqAt.shaped (PySem.W.Datum.toD xs) = true) (q : Q (.bl (decide (x ∈ xs))) M) : O2 X (compareOp .In) u v M Q := fun H v1 v2 m r1 r2 => by
  have e : ((xs.map PySem.W.Datum.toD).any fun z => PyData.eqv z (PySem.W.Datum.toD x)) = decide (x ∈ xs) := by
    rw [List.any_map, Bool.eq_iff_iff, List.any_eq_true, decide_eq_true_eq]
    constructor
    · rintro ⟨y, hy, z⟩
      have z' : PyData.eqv (PySem.W.Datum.toD y) (PySem.W.Datum.toD x) = true := z
      rw [PySem.W.Datum.eqv, decide_eq_true_eq] at z'
      rw [← z']; exact hy
    · intro h
      refine ⟨x, h, ?_⟩
      show PyData.eqv (PySem.W.Datum.toD x) (PySem.W.Datum.toD x) = true
      rw [PySem.W.Datum.eqv, decide_eq_true_eq]
  exact wOp.of (op_inD hu) ⟨_, xs.map PySem.W.Datum.toD, h1.dp m _ _ _ r1, h2.dp m _ _ _ r2, s1, s2, .mk m (.bl _) (by rw [e]; exact q)⟩
theorem o2_notinD {α : Type} [DecidableEq α] [PySem.W.Datum α] {u v : VV} {x : α} {xs : List α} (hu : X.A.units + 65 < cLine) (h1 : DW M u (PySem.W.Datum.toD x)) (h2 : DW M v (PySem.W.Datum.toD xs)) (s1 : SeqAt.shaped (PySem.W.Datum.toD x) = true) (s2 : SeqAt.shaped (PySem.W.Datum.toD xs) = true) (q0 : ∀ k : Bool, (k = true ↔ x ∈ xs) → Q (.bl (!k)) M) : O2 X (compareOp .NotIn) u v M Q := fun H v1 v2 m r1 r2 => by
  have q := q0 (decide (x ∈ xs)) decide_eq_true_iff
  have e : ((xs.map PySem.W.Datum.toD).any fun z => PyData.eqv z (PySem.W.Datum.toD x)) = decide (x ∈ xs) := by
    rw [List.any_map, Bool.eq_iff_iff, List.any_eq_true, decide_eq_true_eq]
    constructor
    · rintro ⟨y, hy, z⟩
      have z' : PyData.eqv (PySem.W.Datum.toD y) (PySem.W.Datum.toD x) = true := z
      rw [PySem.W.Datum.eqv, decide_eq_true_eq] at z'
      rw [← z']; exact hy
    · intro h
      refine ⟨x, h, ?_⟩
      show PyData.eqv (PySem.W.Datum.toD x) (PySem.W.Datum.toD x) = true
      rw [PySem.W.Datum.eqv, decide_eq_true_eq]
  exact wOp.of (op_notInD hu) ⟨_, xs.map PySem.W.Datum.toD, h1.dp m _ _ _ r1, h2.dp m _ _ _ r2, s1, s2, .mk m (.bl _) (by rw [e]; exact q)⟩
theorem comp_pureRS {elt : Expr} {sc' : Scope} {n : Nat} {f : Nat → VV} {R : VQ} (hz : n ≤ sizeLine)
    (he : ∀ Y : Cx, Bd P w K mg base CX N sc' false k Y → ∀ (j : Nat) M', j < n → LeM M M' → WE Y elt (σ.set i (some (.int j))) M' fun y M2 => y = f j ∧ LeM M' M2)
    (q : ∀ D, M D = none → Q (.ref D) (updM M D (.lst ((List.range n).map f)))) (hR : ∀ u M', Fgt Q u M' → R u M') : Comp P w K mg base CX N sc' k elt i R n (fun j z => z = .int j) (fun _ => True) σ M := fun D hD => by
  obtain ⟨Pv, p0, ph, ps, pe⟩ := comp_pureR hz he q D hD
  exact ⟨Pv, p0, ph, ps, fun M' h => hR _ _ (pe M' h)⟩
end
end G3

set_option Elab.async false
set_option linter.all false
set_option maxRecDepth 100000
set_option maxHeartbeats 4000000
/-! L3: what no longer changes becomes a value by content; loops and comprehensions over anything that can be walked -/
namespace G3
open PySem PySem.Spec L2
/-! ### freezing -/
/-- the heap without p -/
def dropM (M : Mp) (p : Addr) : Mp := fun b => if b = p then none else M b
theorem dropM_at {M : Mp} {p : Addr} : dropM M p p = none := if_pos rfl
theorem dropM_le {M : Mp} {p : Addr} : LeM (dropM M p) M := fun x o e => by
  unfold dropM at e
  by_cases c : x = p
  · rw [if_pos c] at e; cases e
  · rw [if_neg c] at e; exact e
theorem le_dropM {M M0 : Mp} {p : Addr} (l : LeM M0 M) (n : M0 p = none) : LeM M0 (dropM M p) := fun x o e => by
  unfold dropM
  rw [if_neg (neM e n)]; exact l x o e

section
variable {K : PySem.W.Frag} {H : Hp} {M M0 : Mp} {p : Addr}
theorem TM.mut {u ho : HO} (h : H p = some u) (h1 : ∀ xs, u ≠ .tup xs) (h2 : ∀ o w, u ≠ .frz o w) : TM H (upd H p ho) :=
  ⟨fun c ys e => by
    rw [upd_ne (fun z => by subst z; rw [h] at e; exact h1 _ (Option.some.inj e))]; exact e,
   fun c ob w _ e => by
    rw [upd_ne (fun z => by subst z; rw [h] at e; exact h2 _ _ (Option.some.inj e))]; exact e⟩
theorem SimM.lockd {u : HO} (m : SimM K M H) (e : ∃ x, M p = some x) (l : LeM M0 M) (n : M0 p = none) (t : TM H (upd H p u)) : SimM K M0 (upd H p u) := fun a o q =>
  Ro.stay (M := M) (M' := M0) t (fun b hb => upd_nn hb) (fun v z => by rw [upd_ne (neM q n)]; exact z)
    (fun b v hb z => ⟨by rw [upd_ne (fun w => by subst w; obtain ⟨x, e⟩ := e; rw [hb] at e; cases e)]; exact z, by
      cases w : M0 b with
      | none => rfl
      | some o => rw [l b o w] at hb; cases hb⟩)
    (fun b hb => l b _ hb) (m a o (l a o q))
theorem Rkv.split {κ : Type} {xs : List (κ × V)} {kvs : List (κ × VV)} (h : Rkv K H xs kvs) : xs.map (·.1) = kvs.map (·.1) ∧ Rvs K H (xs.map (·.2)) (kvs.map (·.2)) := by
  induction h with
  | nil => exact ⟨rfl, .nil⟩
  | cons r _ ih => exact ⟨by rw [List.map_cons, List.map_cons, ih.1], .cons r ih.2⟩
theorem Rkv.join {κ : Type} {xs : List (κ × V)} : ∀ {kvs : List (κ × VV)}, xs.map (·.1) = kvs.map (·.1) → Rvs K H (xs.map (·.2)) (kvs.map (·.2)) → Rkv K H xs kvs := by
  induction xs with
  | nil =>
    intro kvs h1 h2
    cases kvs with
    | nil => exact .nil
    | cons z zs => cases h1
  | cons x xs ih =>
    intro kvs h1 h2
    cases kvs with
    | nil => cases h1
    | cons z zs =>
      rw [List.map_cons, List.map_cons] at h1 h2
      cases h2 with
      | cons r1 r2 =>
        obtain ⟨k, v⟩ := x
        obtain ⟨k', w⟩ := z
        injection h1 with h1 h3
        cases h1
        exact .cons r1 (ih h3 r2)
/-- what an object of the walk's becomes, once it stays -/
inductive Fz : MO → VV → Prop
  | lst (ws) : Fz (.lst ws) (.seq ws)
theorem Fz.go {o : MO} {w : VV} (f : Fz o w) (m : SimM K M H) (e : M p = some o) (l : LeM M0 M) (n : M0 p = none) : ∃ u, H p = some u ∧ Mut (some u) ∧ ∀ ob, TM H (upd H p (.frz ob u)) ∧ SimM K M0 (upd H p (.frz ob u)) ∧ Rv K (upd H p (.frz ob u)) (.ref p) w := by
  cases f with
  | lst ws =>
    obtain ⟨vs, hv, rv⟩ := m _ _ e
    exact ⟨_, hv, trivial, fun ob => ⟨TM.lst hv, m.lockd ⟨_, e⟩ l n (TM.lst hv), .seq (.inl ⟨ob, upd_same⟩) (Rvs.mono (TM.lst hv) _ _ rv)⟩⟩
end
section
variable {X : Cx} {a b c e tg : Expr} {es : List Expr} {σ : St3} {M : Mp} {Q : VQ} {D : En} {pos : Pos} {x : Str} {i : Nat}
variable {P : Program} {w : World} {K : PySem.W.Frag} {mg : Str → Option Value} {base : Heap} {CX : CXT} {N : List Str} {sc : Scope} {fl : Bool} {k : Nat}
theorem wE.lockd {σ' : St} {H : Hp} {Q Q' : VK} (h : wE X e σ' H Q') (k : ∀ v H1, Q' v H1 → ∃ d u, H1 d = some u ∧ Mut (some u) ∧ ∀ o, Q v (upd H1 d (.frz o u))) : wE X e σ' H Q := fun pins s I => thn (h pins s I) fun _ _ ⟨v, H1, I1, r, q⟩ =>
  let ⟨d, u, hd, mu, q⟩ := k v H1 q
  let ⟨o, I2⟩ := I1.lock hd mu
  ⟨v, _, I2, r, q o⟩
/-- a new object that stays as it is from here on -/
theorem we_frz (h : WE X e σ M fun u M1 => ∃ p o w M0, u = .ref p ∧ M1 p = some o ∧ Fz o w ∧ LeM M0 M1 ∧ M0 p = none ∧ Q w M0) : WE X e σ M Q := fun σ' H s m =>
  wE.lockd (h σ' H s m) fun v H1 ⟨w', M1, t, m1, r, p, o, w, M0, ew, e, f, l, n, q⟩ => by
    subst ew; cases r
    obtain ⟨u, hu, mu, hh⟩ := f.go m1 e l n
    refine ⟨p, u, hu, mu, fun ob => ?_⟩
    obtain ⟨t', m', r'⟩ := hh ob
    exact ⟨w, M0, t.trans t', m', r', q⟩
theorem Slots.reset {K : PySem.W.Frag} {H : Hp} {σ' : St} {p : Addr} {w : VV} (s : Slots K H σ' σ) (hs : σ[i]? = some (some (.ref p))) (r : Rv K H (.ref p) w) : Slots K H σ' (σ.set i (some w)) := by
  refine ⟨by simp [s.len], fun j u e => ?_⟩
  by_cases h : i = j
  · subst h
    have hl : i < σ.length := (List.getElem?_eq_some_iff.mp hs).1
    rw [List.getElem?_set_self hl] at e
    cases e
    obtain ⟨v, hv, rv⟩ := s.get i _ hs
    cases rv
    exact ⟨_, hv, r⟩
  · rw [List.getElem?_set_ne h] at e
    exact s.get j u e
/-- what the i-th name holds stays as it is from here on -/
theorem wss_frz {sts : List Stmt} {p : Addr} {o : MO} {w : VV} {M0 : Mp} (i : Nat) (hs : σ[i]? = some (some (.ref p))) (hp : M p = some o) (f : Fz o w) (l : LeM M0 M) (n : M0 p = none) (h : WSs X sts (σ.set i (some w)) M0 D) : WSs X sts σ M D := fun σ' H s m pins st I => by
  obtain ⟨u, hu, mu, hh⟩ := f.go m hp l n
  obtain ⟨ob, I2⟩ := I.lock hu mu
  obtain ⟨t', m', r'⟩ := hh ob
  exact (h.at t' ((s.mono t').reset hs r') m') pins st I2
/-! ### anything that can be walked -/
def wI (X : Cx) (tg e : Expr) : TI := fun σ H R => ∀ pins s, Inv X pins σ H s → wpAny (model X.prog X.w) X.A (eval e X.env) (fun v s1 => wpAny (model X.prog X.w) X.A (pyIter v) (PIE X pins σ tg R) X.xe s1) X.xe s
theorem wI.pi : PI X tg e (wI X tg e) := ⟨fun pins s σ H R I h => h pins s I⟩
theorem wI.of {wi : TI} {σ' : St} {H : Hp} {R : It → Hp → Prop} (p : PI X tg e wi) (h : wi σ' H R) : wI X tg e σ' H R := fun pins s I => p.run pins s σ' H R I h
theorem wI.mono {σ' : St} {H : Hp} {R R' : It → Hp → Prop} (h : wI X tg e σ' H R) (k : ∀ J H1, R J H1 → R' J H1) : wI X tg e σ' H R' := fun pins s I =>
  thn (h pins s I) fun _ _ z => thn z fun _ _ ⟨it, fp, tn, J, H', e, I', T, h0, hf, r⟩ => ⟨it, fp, tn, J, H', e, I', T, h0, hf, k _ _ r⟩
/-- how many turns, what each gives, what has to hold of the heap meanwhile -/
structure It3 where
  n : Nat
  item : Nat → VV → Prop
  hold : Mp → Prop
def Goes (K : PySem.W.Frag) (J : It) (it : It3) (H0 : Hp) : Prop := ∀ i M H, TM H0 H → SimM K M H → it.hold M → i ≤ it.n →
  (i = it.n ∧ J.stop i H) ∨ (i < it.n ∧ J.go i H ∧ ∀ x H', J.yld i H x H' → ∃ w, it.item i w ∧ TM H H' ∧ SimM K M H' ∧ Rv K H' x w)
def WI (X : Cx) (tg e : Expr) (σ : St3) (M : Mp) (R : It3 → Mp → Prop) : Prop := ∀ σ' H, Slots X.K H σ' σ → SimM X.K M H → wI X tg e σ' H fun J H1 => ∃ it M1, TM H H1 ∧ SimM X.K M1 H1 ∧ Goes X.K J it H1 ∧ R it M1
theorem ws_for (B : Bd P w K mg base CX N sc fl k X) {body : List Stmt} (h : WI X tg e σ M fun it M1 => Turns X tg body D it.n it.item it.hold σ M1)
    (hs : ∀ x, foldedSetIterable e X.env x = pure x := by intro _; rfl) : WS X (.For tg e body [] pos) σ M D := fun σ' H s m =>
  wS.of (ps_for B.own B.calm wI.pi wG.pg wSs.pss hs) ((h σ' H s m).mono fun J H1 ⟨it, M1, t1, m1, goes, Pv, p0, ph, ps, pe⟩ => by
    refine ⟨fun i n σ2 H2 => n = it.n - i ∧ i ≤ it.n ∧ PoS X.K H1 (Pv i) σ2 H2, ⟨_, rfl, Nat.zero_le _, σ, M1, TM.refl, s.mono t1, m1, p0⟩, ?_⟩
    rintro i n σ2 H2 ⟨rfl, hi, σ3, M3, t3, s3, m3, p3⟩
    rcases goes i M3 H2 t3 m3 (ph i σ3 M3 hi p3) hi with ⟨e, st⟩ | ⟨hlt, hgo, hy⟩
    · subst e
      exact .inl ⟨st, σ3, M3, t1.trans t3, s3, m3, pe σ3 M3 p3⟩
    · refine .inr ⟨hgo, PoS X.K H1 (Pv (i + 1)), fun σ' H' z => ⟨_, by omega, rfl, hlt, z⟩, fun y H' hy' => ?_⟩
      obtain ⟨w, hw, tT, m4, rw⟩ := hy y H' hy'
      exact ((ps i w σ3 M3 hlt hw p3).at (t3.trans tT) (s3.mono tT) m4 rw).mono fun σ4 H4 ⟨σ5, M5, t5, s5, m5, q5⟩ => (q5.at t5 s5 m5).mono (fun _ _ z => z) (fun _ _ z => PoR.tr t1 z) (fun _ _ z => PoS.tr t1 z) (fun _ _ z => z))
/-! what is walked -/
def itL (u : VV) (ws : List VV) : It3 := ⟨ws.length, fun i v => ws[i]? = some v, fun M => Lst M u ws⟩
def itT (ws : List VV) : It3 := ⟨ws.length, fun i v => ws[i]? = some v, fun _ => True⟩
def itR (lo : Int) (n : Nat) : It3 := ⟨n, fun i v => v = .int (lo + i), fun _ => True⟩
theorem wi_lst (h : WE X e σ M fun u M1 => ∃ ws, Lst M1 u ws ∧ R (itL u ws) M1) : WI X tg e σ M R := fun σ' H s m =>
  wI.of (pi_list wE.pe) (h.run s m fun v H1 u M1 t1 m1 r1 s1 ⟨ws, hl, q⟩ => by
    obtain ⟨a, vs, rfl, h1, h2⟩ := hl.v m1 r1
    refine ⟨a, rfl, ⟨vs, h1⟩, _, M1, t1, m1, ?_, q⟩
    intro i M2 H2 t2 m2 hh hi
    obtain ⟨a', vs2, e', q1, q2⟩ := (show Lst M2 u ws from hh).v m2 (Rv.mono t2 _ _ r1)
    cases e'
    have hlen := q2.length
    change i ≤ ws.length at hi
    by_cases hlt : i < ws.length
    · obtain ⟨x, hx, rx⟩ := q2.get (i := i) (w := ws[i]) (by simp [hlt])
      refine .inr ⟨hlt, ⟨vs2, x, q1, hx⟩, fun y H' hy => ?_⟩
      obtain ⟨rfl, hy⟩ := hy
      have ey := hy vs2 q1
      rw [hx] at ey
      cases ey
      exact ⟨ws[i], by show ws[i]? = _; simp [hlt], TM.refl, m2, rx⟩
    · exact .inl ⟨by show i = ws.length; omega, vs2, q1, by omega⟩)
theorem wi_tup (h : WE X e σ M fun u M1 => ∃ ws, u = .tup ws ∧ R (itT ws) M1) : WI X tg e σ M R := fun σ' H s m =>
  wI.of (pi_tup wE.pe) (h.run s m fun v H1 u M1 t1 m1 r1 s1 ⟨ws, hu, q⟩ => by
    subst hu
    obtain ⟨a, vs, rfl, h1, h2⟩ := r1.tupv
    refine ⟨a, rfl, ⟨vs, h1⟩, _, M1, t1, m1, ?_, q⟩
    intro i M2 H2 t2 m2 hh hi
    have q1 := SqT.mono t2 h1
    have q2 := Rvs.mono t2 _ _ h2
    have hlen := q2.length
    change i ≤ ws.length at hi
    by_cases hlt : i < ws.length
    · obtain ⟨x, hx, rx⟩ := q2.get (i := i) (w := ws[i]) (by simp [hlt])
      refine .inr ⟨hlt, ⟨vs, x, q1, hx⟩, fun y H' hy => ?_⟩
      obtain ⟨rfl, hy⟩ := hy
      have ey := hy vs q1
      rw [hx] at ey
      cases ey
      exact ⟨ws[i], by show ws[i]? = _; simp [hlt], TM.refl, m2, rx⟩
    · exact .inl ⟨by show i = ws.length; omega, vs, q1, by omega⟩)
theorem goes_rng {lo : Int} {n : Nat} {K : PySem.W.Frag} {H : Hp} : Goes K (Itr lo n) (itR lo n) H := by
  intro i M2 H2 t2 m2 hh hi
  change i ≤ n at hi
  by_cases hlt : i < n
  · refine .inr ⟨hlt, hlt, fun y H' hy => ?_⟩
    obtain ⟨rfl, rfl⟩ := hy
    exact ⟨_, rfl, TM.refl, m2, .int _⟩
  · exact .inl ⟨by show i = n; omega, by show n ≤ i; omega⟩
theorem wi_range1 (B : Bd P w K mg base CX N sc fl k X) {p pos' : Pos} (hg : sc.names.lookup ("range" : Str) = some .globalImplicit) (hm : mg "range" = none)
    (h : WA X [a] σ M fun us M1 => ∃ j : Int, us = [.int j] ∧ (-(2 ^ 62) ≤ j ∧ j < 2 ^ 62) ∧ R (itR 0 j.toNat) M1)
    (hsp : starEach [a] X.env = [(false, eval a X.env)] := by rfl) : WI X tg (.Call (.Name "range" p) [a] [] pos') σ M R := fun σ' H s m =>
  wI.of (pi_range1 (by show X.env.scope.names.lookup _ = _; rw [B.esc]; exact hg) (by rw [B.emg]; exact hm) wA.pa hsp) (h.run s m fun vs H1 us M1 t1 m1 r1 s1 ⟨j, e, ⟨l1, l2⟩, q⟩ => by
    subst e
    cases r1 with | cons r1 r2 =>
    cases r1; cases r2
    exact ⟨j, rfl, l1, l2, _, M1, t1, m1, goes_rng, q⟩)
theorem wi_range2 (B : Bd P w K mg base CX N sc fl k X) {p pos' : Pos} (hg : sc.names.lookup ("range" : Str) = some .globalImplicit) (hm : mg "range" = none)
    (h : WA X [a, b] σ M fun us M1 => ∃ i j : Int, us = [.int i, .int j] ∧ (-(2 ^ 62) ≤ i ∧ i < 2 ^ 62 ∧ -(2 ^ 62) ≤ j ∧ j < 2 ^ 62) ∧ R (itR i (j - i).toNat) M1)
    (hsp : starEach [a, b] X.env = [(false, eval a X.env), (false, eval b X.env)] := by rfl) (hsp2 : starEach [b] X.env = [(false, eval b X.env)] := by rfl) : WI X tg (.Call (.Name "range" p) [a, b] [] pos') σ M R := fun σ' H s m =>
  wI.of (pi_range2 (by show X.env.scope.names.lookup _ = _; rw [B.esc]; exact hg) (by rw [B.emg]; exact hm) wA.pa hsp hsp2) (h.run s m fun vs H1 us M1 t1 m1 r1 s1 ⟨i, j, e, l, q⟩ => by
    subst e
    cases r1 with | cons r1 r2 => cases r2 with | cons r2 r3 =>
    cases r1; cases r2; cases r3
    exact ⟨i, j, rfl, l, _, M1, t1, m1, goes_rng, q⟩)
def itZ (u u2 : VV) (ws ws2 : List VV) : It3 := ⟨min ws.length ws2.length, fun i v => ∃ w w2, ws[i]? = some w ∧ ws2[i]? = some w2 ∧ v = .tup [w, w2], fun M => Lst M u ws ∧ Lst M u2 ws2⟩
theorem wi_zip (B : Bd P w K mg base CX N sc fl k X) {e2 : Expr} {p pos' tpos : Pos} {elts : List Expr} {kk : Nat} (hg : sc.names.lookup ("zip" : Str) = some .globalImplicit) (hm : mg "zip" = none)
    (h : WA X [e, e2] σ M fun us M1 => ∃ u u2 ws ws2, us = [u, u2] ∧ Lst M1 u ws ∧ Lst M1 u2 ws2 ∧ R (itZ u u2 ws ws2) M1)
    (hst : starEach [e, e2] X.env = (false, eval e X.env) :: starEach [e2] X.env := by rfl) (hpl : (backTo pos' (starEach [e2] X.env)).any (·.1) = false := by rfl) : WI X (.Tuple elts kk tpos) (.Call (.Name "zip" p) [e, e2] [] pos') σ M R := fun σ' H s m =>
  wI.of (pi_zip (by show X.env.scope.names.lookup _ = _; rw [B.esc]; exact hg) (by rw [B.emg]; exact hm) wA.pa hst hpl) (h.run s m fun vs0 H1 us M1 t1 m1 r1 s1 ⟨u, u2, ws, ws2, eus, hl, hl2, q⟩ => by
    subst eus
    cases r1 with | cons r1 r2 =>
    cases r2 with | cons r2 r3 =>
    cases r3
    obtain ⟨a, vs, rfl, h1, h2⟩ := hl.v m1 r1
    obtain ⟨a2, vs2, rfl, h12, h22⟩ := hl2.v m1 r2
    refine ⟨a, a2, vs, vs2, rfl, h1, h12, _, M1, t1, m1, ?_, q⟩
    intro i M2 H2 t2 m2 hh hi
    obtain ⟨hh1, hh2⟩ := (show Lst M2 u ws ∧ Lst M2 u2 ws2 from hh)
    obtain ⟨a', xs, e', q1, rv⟩ := hh1.v m2 (Rv.mono t2 _ _ r1)
    obtain ⟨a'', xs2, e'', q12, rv2⟩ := hh2.v m2 (Rv.mono t2 _ _ r2)
    cases e'; cases e''
    have hlen := rv.length
    have hlen2 := rv2.length
    change i ≤ min ws.length ws2.length at hi
    by_cases hlt : i < min ws.length ws2.length
    · have hlt1 : i < ws.length := by omega
      have hlt2 : i < ws2.length := by omega
      obtain ⟨x, hx, rx⟩ := rv.get (i := i) (w := ws[i]) (by simp [hlt1])
      obtain ⟨x2, hx2, rx2⟩ := rv2.get (i := i) (w := ws2[i]) (by simp [hlt2])
      refine .inr ⟨hlt, ⟨xs, xs2, x, x2, q1, q12, hx, hx2⟩, fun y H' hy => ?_⟩
      obtain ⟨T, x', y', rfl, hT, rfl, hy, hy2⟩ := hy
      have ey := hy xs q1
      have ey2 := hy2 xs2 q12
      rw [hx] at ey
      rw [hx2] at ey2
      cases ey
      cases ey2
      have tT : TM H2 (upd H2 T (.tup [x, x2])) := TM.fresh hT
      exact ⟨_, ⟨ws[i], ws2[i], by simp [hlt1], by simp [hlt2], rfl⟩, tT, m2.alloc hT, .tup (SqT.of upd_same) (.cons (Rv.mono tT _ _ rx) (.cons (Rv.mono tT _ _ rx2) .nil))⟩
    · exact .inl ⟨by show i = min ws.length ws2.length; omega, xs, xs2, q1, q12, by omega⟩)
def itE (u : VV) (ws : List VV) : It3 := ⟨ws.length, fun i v => ∃ w, ws[i]? = some w ∧ v = .tup [.int i, w], fun M => Lst M u ws⟩
theorem wi_enum (B : Bd P w K mg base CX N sc fl k X) {p pos' tpos : Pos} {elts : List Expr} {kk : Nat} (hg : sc.names.lookup ("enumerate" : Str) = some .globalImplicit) (hm : mg "enumerate" = none)
    (h : WA X [e] σ M fun us M1 => ∃ u ws, us = [u] ∧ Lst M1 u ws ∧ R (itE u ws) M1) (hsp : starEach [e] X.env = [(false, eval e X.env)] := by rfl) : WI X (.Tuple elts kk tpos) (.Call (.Name "enumerate" p) [e] [] pos') σ M R := fun σ' H s m =>
  wI.of (pi_enum (by show X.env.scope.names.lookup _ = _; rw [B.esc]; exact hg) (by rw [B.emg]; exact hm) wA.pa hsp) (h.run s m fun vs0 H1 us M1 t1 m1 r1 s1 ⟨u, ws, eus, hl, q⟩ => by
    subst eus
    cases r1 with | cons r1 r2 =>
    cases r2
    obtain ⟨a, vs, rfl, h1, h2⟩ := hl.v m1 r1
    refine ⟨a, vs, rfl, h1, _, M1, t1, m1, ?_, q⟩
    intro i M2 H2 t2 m2 hh hi
    obtain ⟨a', xs, e', q1, rv⟩ := (show Lst M2 u ws from hh).v m2 (Rv.mono t2 _ _ r1)
    cases e'
    have hlen := rv.length
    change i ≤ ws.length at hi
    by_cases hlt : i < ws.length
    · obtain ⟨x, hx, rx⟩ := rv.get (i := i) (w := ws[i]) (by simp [hlt])
      refine .inr ⟨hlt, ⟨xs, x, q1, hx⟩, fun y H' hy => ?_⟩
      obtain ⟨T, x', rfl, hT, rfl, hy⟩ := hy
      have ey := hy xs q1
      rw [hx] at ey
      cases ey
      have tT : TM H2 (upd H2 T (.tup [.int (i : Nat), x])) := TM.fresh hT
      exact ⟨_, ⟨ws[i], by simp [hlt], rfl⟩, tT, m2.alloc hT, .tup (SqT.of upd_same) (.cons (.int _) (.cons (Rv.mono tT _ _ rx) .nil))⟩
    · exact .inl ⟨by show i = ws.length; omega, xs, q1, by omega⟩)
/-! dicts that stay -/
theorem kv_rv {K : PySem.W.Frag} {H : Hp} (k : Key) : Rv K H (kV k) (match k with | .inl i => .int i | .inr s => .str s) := by
  cases k with
  | inl i => exact .int i
  | inr s => exact .str s
/-- a key as a value -/
def kW : Key → VV
  | .inl i => .int i
  | .inr s => .str s
theorem rv_kW {K : PySem.W.Frag} {H : Hp} : ∀ k : Key, Rv K H (kV k) (kW k)
  | .inl i => .int i
  | .inr s => .str s
def itKeys (ks : List Key) : It3 := ⟨ks.length, fun i v => ∃ k, ks[i]? = some k ∧ v = kW k, fun _ => True⟩
def itVals (ws : List VV) : It3 := ⟨ws.length, fun i v => ws[i]? = some v, fun _ => True⟩
def itItems (ks : List Key) (ws : List VV) : It3 := ⟨ks.length, fun i v => ∃ k w, ks[i]? = some k ∧ ws[i]? = some w ∧ v = .tup [kW k, w], fun _ => True⟩
/-! ### comprehensions, their targets names of their own -/
def wipeA {α : Type} (σ : List (Option α)) : List Nat → List (Option α)
  | [] => σ
  | v :: vs => (wipeA σ vs).set v none
def putA {α : Type} (σ : List (Option α)) : List Nat → List α → List (Option α)
  | i :: is, u :: us => putA (σ.set i (some u)) is us
  | _, _ => σ
theorem wipe_eq (σ' : St) : ∀ vs, wipe σ' vs = wipeA σ' vs
  | [] => rfl
  | v :: vs => by
    show (wipe σ' vs).set v none = (wipeA σ' vs).set v none
    rw [wipe_eq σ' vs]
theorem wipeA_len {α : Type} (σ : List (Option α)) : ∀ vs, (wipeA σ vs).length = σ.length
  | [] => rfl
  | v :: vs => by
    show ((wipeA σ vs).set v none).length = _
    rw [List.length_set, wipeA_len σ vs]
theorem putA_len {α : Type} : ∀ (is : List Nat) (us : List α) (σ : List (Option α)), (putA σ is us).length = σ.length
  | [], _, _ => rfl
  | _ :: _, [], _ => rfl
  | i :: is, u :: us, σ => by
    show (putA (σ.set i (some u)) is us).length = _
    rw [putA_len is us, List.length_set]
theorem putA_out {α : Type} {j : Nat} : ∀ (is : List Nat) (us : List α) (σ : List (Option α)), j ∉ is → (putA σ is us)[j]? = σ[j]?
  | [], _, _, _ => rfl
  | _ :: _, [], _, _ => rfl
  | i :: is, u :: us, σ, h => by
    show (putA (σ.set i (some u)) is us)[j]? = _
    rw [putA_out is us _ (fun z => h (List.mem_cons_of_mem _ z)), List.getElem?_set_ne (fun z => h (by rw [z]; exact List.mem_cons_self))]
theorem wipeA_out {α : Type} {j : Nat} (σ : List (Option α)) : ∀ vs, j ∉ vs → (wipeA σ vs)[j]? = σ[j]?
  | [], _ => rfl
  | v :: vs, h => by
    show ((wipeA σ vs).set v none)[j]? = _
    rw [List.getElem?_set_ne (fun z => h (by rw [z]; exact List.mem_cons_self)), wipeA_out σ vs (fun z => h (List.mem_cons_of_mem _ z))]
theorem wipeA_in {α : Type} {j : Nat} (σ : List (Option α)) (hj : j < σ.length) : ∀ vs, j ∈ vs → (wipeA σ vs)[j]? = some none
  | [], h => by cases h
  | v :: vs, h => by
    show ((wipeA σ vs).set v none)[j]? = _
    by_cases e : v = j
    · subst e
      rw [List.getElem?_set_self (by rw [wipeA_len]; exact hj)]
    · rw [List.getElem?_set_ne e]
      exact wipeA_in σ hj vs ((List.mem_cons.mp h).resolve_left fun z => e z.symm)
theorem wipe_put {α : Type} (σ : List (Option α)) (own : List Nat) (us : List α) : wipeA (putA (wipeA σ own) own us) own = wipeA σ own := by
  refine List.ext_getElem? fun j => ?_
  by_cases hl : j < σ.length
  · by_cases hj : j ∈ own
    · rw [wipeA_in _ (by rw [putA_len, wipeA_len]; exact hl) own hj, wipeA_in _ hl own hj]
    · rw [wipeA_out _ own hj, putA_out own us _ hj]
  · rw [List.getElem?_eq_none (by rw [wipeA_len, putA_len, wipeA_len]; omega), List.getElem?_eq_none (by rw [wipeA_len]; omega)]
theorem Slots.wipe {K : PySem.W.Frag} {H : Hp} {σ' : St} (s : Slots K H σ' σ) : ∀ vs, Slots K H (wipeA σ' vs) (wipeA σ vs)
  | [] => s
  | v :: vs => by
    have ih := Slots.wipe s vs
    refine ⟨by show ((wipeA σ' vs).set v none).length = ((wipeA σ vs).set v none).length; rw [List.length_set, List.length_set]; exact ih.len, fun j u e => ?_⟩
    change ((wipeA σ vs).set v none)[j]? = _ at e
    show ∃ x, ((wipeA σ' vs).set v none)[j]? = _ ∧ _
    by_cases h : v = j
    · subst h
      have hl : v < (wipeA σ vs).length := by
        have := (List.getElem?_eq_some_iff.mp e).1; rwa [List.length_set] at this
      rw [List.getElem?_set_self hl] at e
      cases e
    · rw [List.getElem?_set_ne h] at e ⊢
      exact ih.get j u e
theorem Slots.putA {K : PySem.W.Frag} {H : Hp} : ∀ (is : List Nat) (us : List VV) {vs : List V} {σ' : St} {σ : St3}, Slots K H σ' σ → Rvs K H vs us → Slots K H (putA σ' is vs) (putA σ is us)
  | [], _, _, _, _, s, _ => s
  | _ :: _, [], _, _, _, s, r => by cases r; exact s
  | i :: is, u :: us, _, σ', σ, s, r => by
    cases r with
    | cons r1 r2 => exact Slots.putA is us (s.set i r1) r2
/-- what a comprehension's target takes of an item -/
structure CTg (K : PySem.W.Frag) (g : TG) (own : List Nat) (sel : VV → List VV → Prop) : Prop where
  run : ∀ (σ' : St) (H : Hp) (x : V) (w : VV) (us : List VV) (Z : St → Hp → Prop), Rv K H x w → sel w us → (∀ vs, Rvs K H vs us → Z (putA σ' own vs) H) → g x σ' H Z
theorem ctg_name {K : PySem.W.Frag} {i : Nat} : CTg K (gName i) [i] (fun w us => us = [w]) := ⟨fun σ' H x w us Z r e h => by
  subst e
  exact h [x] (.cons r .nil)⟩
def CTgs (K : PySem.W.Frag) (t : TGs) (own : List Nat) (sel : List VV → List VV → Prop) : Prop := ∀ (σ' : St) (H : Hp) (xs : List V) (ws us : List VV) (Z : St → Hp → Prop), Rvs K H xs ws → sel ws us → (∀ vs, Rvs K H vs us → Z (putA σ' own vs) H) → t xs σ' H Z
theorem ctgs_nil {K : PySem.W.Frag} : CTgs K gNil [] (fun ws us => ws = [] ∧ us = []) := fun σ' H xs ws us Z r e h => by
  obtain ⟨rfl, rfl⟩ := e
  cases r
  exact ⟨rfl, h [] .nil⟩
theorem putA_app {α : Type} : ∀ (is : List Nat) (us : List α) (js : List Nat) (vs : List α) (σ : List (Option α)), is.length = us.length → putA (putA σ is us) js vs = putA σ (is ++ js) (us ++ vs)
  | [], [], _, _, _, _ => rfl
  | [], _ :: _, _, _, _, h => by cases h
  | _ :: _, [], _, _, _, h => by cases h
  | i :: is, u :: us, js, vs, σ, h => putA_app is us js vs (σ.set i (some u)) (by simpa using h)
/-- one by one -/
theorem ctgs_cons {K : PySem.W.Frag} {t : TG} {ts : TGs} {own owns : List Nat} {sel : VV → List VV → Prop} {sels : List VV → List VV → Prop} (h1 : CTg K t own sel) (hl : ∀ w us, sel w us → us.length = own.length) (h2 : CTgs K ts owns sels) :
    CTgs K (gCons t ts) (own ++ owns) (fun ws us => ∃ w wr u1 u2, ws = w :: wr ∧ us = u1 ++ u2 ∧ sel w u1 ∧ sels wr u2) := fun σ' H xs ws us Z r e h => by
  obtain ⟨w, wr, u1, u2, rfl, rfl, e1, e2⟩ := e
  cases r with
  | cons r1 r2 =>
    exact ⟨_, _, rfl, h1.run σ' H _ w u1 _ r1 e1 fun v1 rv1 => h2 _ H _ wr u2 _ r2 e2 fun v2 rv2 => by
      rw [putA_app own v1 owns v2 σ' (by rw [rv1.length]; exact (hl _ _ e1).symm)]
      exact h _ (rv1.append rv2)⟩
theorem ctg_tup {K : PySem.W.Frag} {t : TGs} {n : Nat} {own : List Nat} {sels : List VV → List VV → Prop} (h : CTgs K t own sels) : CTg K (gTup K n t) own (fun w us => ∃ ws, w = .tup ws ∧ ws.length = n ∧ sels ws us) := ⟨fun σ' H x w us Z r e hz => by
  obtain ⟨ws, rfl, hn, e⟩ := e
  obtain ⟨a, vs, rfl, h1, h2⟩ := r.tupv
  exact ⟨a, vs, rfl, h1, by rw [h2.length]; exact hn, h _ _ _ _ _ _ h2 e hz⟩⟩
/-- what the block of [elt for tg in .. if c] is to do: the new list at D -/
def CompI (P : Program) (w : World) (K : PySem.W.Frag) (mg : Str → Option Value) (base : Heap) (CX : CXT) (N : List Str) (sc' : Scope) (k : Nat) (elt : Expr) (ifs : List Expr) (own : List Nat) (sel : VV → List VV → Prop) (Q : VQ) (it : It3) (σ : St3) (M : Mp) : Prop := ∀ D, M D = none → ∃ Pv : Nat → Mp → Prop, Pv 0 (updM M D (.lst [])) ∧ (∀ j M, j ≤ it.n → Pv j M → it.hold M) ∧
  (∀ j u M, j < it.n → it.item j u → Pv j M → ∃ us, sel u us ∧ ∀ Y : Cx, Bd P w K mg base CX N sc' false k Y →
    let go : Mp → Prop := fun M1 => ∀ Y' : Cx, Bd P w K mg base CX N sc' false k Y' → WE Y' elt (putA (wipeA σ own) own us) M1 fun y M2 => ∃ acc, M2 D = some (.lst acc) ∧ acc.length < sizeLine ∧ Pv (j + 1) (updM M2 D (.lst (acc ++ [y])))
    match ifs with
    | [] => go M
    | [c] => WT Y c (putA (wipeA σ own) own us) M fun t M1 => if t = true then go M1 else Pv (j + 1) M1
    | _ => False) ∧ ∀ M, Pv it.n M → Q (.ref D) M
def ttI (X : Cx) (scope : Scope) : List Expr → TT
  | [c] => ttB X scope c
  | _ => tYes
theorem lcI_read (B : Bd P w K mg base CX N sc fl k X) {elt : Expr} {ifs : List Expr} {scope : Scope} {own : List Nat} {g : TG} {sel : VV → List VV → Prop} (ct : CTg K g own sel)
    (h : WI X tg e σ M fun it M1 => CompI P w K mg base CX N (scBlk scope sc) k elt ifs own sel Q it σ M1)
    {σ' : St} {H : Hp} (s : Slots X.K H σ' σ) (m : SimM X.K M H) {Qv : VK} (hQ : ∀ v H', PoE X.K H Q v H' → Qv v H') : tLc (wI X tg e) g (ttI X scope ifs) (teB X scope elt) own σ' H Qv := by
  refine (h σ' H s m).mono fun J H1 ⟨it, M1, t1, m1, goes, q1⟩ => ?_
  have s1 := s.mono t1
  intro D hD
  obtain ⟨Pv, p0, ph, ps, pe⟩ := q1 D (m1.no hD)
  have tD : TM H1 (upd H1 D (.lst [])) := TM.fresh hD
  refine ⟨fun j n H2 => n = it.n - j ∧ j ≤ it.n ∧ ∃ M2, TM H1 H2 ∧ SimM X.K M2 H2 ∧ Pv j M2, ⟨_, rfl, Nat.zero_le _, _, tD, m1.putL tD (.inl hD) .nil, p0⟩, ?_⟩
  rintro j n H2 ⟨rfl, hj, M2, t2, m2, p2⟩
  rcases goes j M2 H2 t2 m2 (ph j M2 hj p2) hj with ⟨ej, st⟩ | ⟨hlt, hgo, hy⟩
  · subst ej
    exact .inl ⟨st, hQ _ _ ⟨.ref D, M2, t1.trans t2, m2, .ref D, pe M2 p2⟩⟩
  · refine .inr ⟨hgo, fun H' => ∃ M', TM H1 H' ∧ SimM X.K M' H' ∧ Pv (j + 1) M', fun H' z => ⟨_, by omega, rfl, hlt, z⟩, fun y H' hy' => ?_⟩
    obtain ⟨u, hu, tT, m3, ru⟩ := hy y H' hy'
    obtain ⟨us, hs, hb⟩ := ps j u M2 hlt hu p2
    have hK := B.eK
    refine (show CTg X.K g own sel by rw [hK]; exact ct).run _ H' y u us _ ru hs fun vs rv => ⟨by rw [wipe_eq, wipe_eq, wipe_put], ?_⟩
    rw [wipe_eq]
    have s2 : Slots X.K H' (putA (wipeA σ' own) own vs) (putA (wipeA σ own) own us) := Slots.putA own us ((s1.mono (t2.trans tT)).wipe own) rv
    have run : ∀ {M4 : Mp} {H4 : Hp}, TM H' H4 → SimM X.K M4 H4 → (∀ Y' : Cx, Bd P w K mg base CX N (scBlk scope sc) false k Y' → WE Y' elt (putA (wipeA σ own) own us) M4 fun y M2 => ∃ acc, M2 D = some (.lst acc) ∧ acc.length < sizeLine ∧ Pv (j + 1) (updM M2 D (.lst (acc ++ [y])))) →
        teB X scope elt (putA (wipeA σ' own) own vs) H4 fun y H5 => ∃ acc, H5 D = some (.lst acc) ∧ acc.length < sizeLine ∧ ∃ M', TM H1 (upd H5 D (.lst (acc ++ [y]))) ∧ SimM X.K M' (upd H5 D (.lst (acc ++ [y]))) ∧ Pv (j + 1) M' := by
      intro M4 H4 t4 m4 hh s0 H0 C cl fp
      have Y' := B.blk s0 H0 scope C cl fp
      rw [B.rel] at Y'
      refine (hh _ Y' _ H4 (s2.mono t4) m4).mono fun y3 H5 ⟨w3, M5, t5, m5, r5, acc, e5, l5, p5⟩ => ?_
      obtain ⟨va, h5, h6⟩ := m5 _ _ e5
      exact ⟨va, h5, by rw [h6.length]; exact l5, _, (((t2.trans tT).trans t4).trans t5).trans (TM.lst h5), m5.putL (TM.lst h5) (.inr ⟨_, e5⟩) (h6.append (.cons r5 .nil)), p5⟩
    have Y0 := B.blk X.s_0 H' scope 0 [] []
    rw [B.rel] at Y0
    match ifs, hb with
    | [], hb =>
      have z := run TM.refl m3 (hb _ Y0)
      simp only [ttI, tYes, if_true]
      exact z
    | [c], hb =>
      show ∀ s0 H0 C cl fp, wT (X.blk s0 H0 scope (compEnvC scope cl C X.env) fp) c _ _ _
      intro s0 H0 C cl fp
      have Y := B.blk s0 H0 scope C cl fp
      rw [B.rel] at Y
      refine WT.run (hb _ Y) s2 m3 fun b H3 M3 t3 m4 s3 q3 => ?_
      cases b with
      | false => rw [if_neg Bool.false_ne_true] at q3 ⊢; exact ⟨M3, (t2.trans tT).trans t3, m4, q3⟩
      | true =>
        rw [if_pos rfl] at q3 ⊢
        exact run t3 m4 q3
    | _ :: _ :: _, hb => exact (hb _ Y0).elim
section
variable {elt : Expr} {ifs : List Expr} {scope : Scope} {own : List (Str × Nat)} {g : TG} {sel : VV → List VV → Prop}
theorem we_lc (B : Bd P w K mg base CX N sc fl k X) (own : List (Str × Nat)) (hok : blkC N sc scope own = true) (hif : ifs.length ≤ 1)
    (hg : ∀ (s0 : Shared) (H0 : Hp) (C : Addr) (cl : List (Str × Addr)) (fp : List Addr), PG (X.blk s0 H0 scope (compEnvC scope cl C X.env) fp) tg g) (ct : CTg K g (own.map (·.2)) sel)
    (h : WI X tg e σ M fun it M1 => CompI P w K mg base CX N (scBlk scope sc) k elt ifs (own.map (·.2)) sel Q it σ M1)
    (hs : ∀ x, foldedSetIterable e X.env x = pure x := by intro _; rfl) : WE X (.ListComp elt [⟨tg, e, ifs, 0⟩] scope pos) σ M Q := fun σ' H s m => by
  have ht : ∀ (s0 : Shared) (H0 : Hp) (C : Addr) (cl : List (Str × Addr)) (fp : List Addr), PTs (X.blk s0 H0 scope (compEnvC scope cl C X.env) fp) ifs (ttI X scope ifs) := fun s0 H0 C cl fp => by
    match ifs, hif with
    | [], _ => exact pts_nil
    | [c], _ => exact B.ptB s0 H0 C cl fp
    | _ :: _ :: _, hif => exact absurd hif (by simp)
  exact wE.of (pe_lc (own := own) (tt := ttI X scope ifs) (g := g) (te := teB X scope elt) B.calm (by rw [B.eN]; exact B.nd) wI.pi (by rw [B.eN, B.esc]; exact blkOk_by hok)
    hg ht (fun s0 H0 C cl fp => ⟨fun pins s σ H R I h => h s0 H0 C cl fp pins s I⟩) hs) (lcI_read B ct h s m fun _ _ z => z)
theorem ws_setLc (B : Bd P w K mg base CX N sc fl k X) (own : List (Str × Nat)) {spos : Pos} {y : Str} {py : Pos} {iy : Nat} (hiy : At N iy y) (hyl : sc.names.lookup y = some .local) (hsw : swapsWith (.ListComp elt [⟨tg, e, ifs, 0⟩] scope pos) (some (.Name y py)) spos.line (cenv sc) = pure true) (hok : blkC N sc scope own = true) (hif : ifs.length ≤ 1)
    (hg : ∀ (s0 : Shared) (H0 : Hp) (C : Addr) (cl : List (Str × Addr)) (fp : List Addr), PG (X.blk s0 H0 scope (compEnvC scope cl C X.env) fp) tg g) (ct : CTg K g (own.map (·.2)) sel)
    (h : WI X tg e σ M fun it M1 => CompI P w K mg base CX N (scBlk scope sc) k elt ifs (own.map (·.2)) sel (fun u M1 => D.nx (σ.set iy (some u)) M1) it σ M1)
    (hs : ∀ x, foldedSetIterable e X.env x = pure x := by intro _; rfl) : WS X (.Assign [.Name y py] (.ListComp elt [⟨tg, e, ifs, 0⟩] scope pos) spos) σ M D := fun σ' H s m => by
  have ht : ∀ (s0 : Shared) (H0 : Hp) (C : Addr) (cl : List (Str × Addr)) (fp : List Addr), PTs (X.blk s0 H0 scope (compEnvC scope cl C X.env) fp) ifs (ttI X scope ifs) := fun s0 H0 C cl fp => by
    match ifs, hif with
    | [], _ => exact pts_nil
    | [c], _ => exact B.ptB s0 H0 C cl fp
    | _ :: _ :: _, hif => exact absurd hif (by simp)
  exact wS.of (ps_setLc (i := iy) (own := own) (tt := ttI X scope ifs) (g := g) (te := teB X scope elt) B.calm (by rw [B.eN]; exact B.nd) (by rw [B.eN]; exact hiy.get) (by rw [B.esc]; exact hyl) (by rw [swWith_of (env' := cenv sc) (by rw [B.esc]; rfl)]; exact hsw) wI.pi (by rw [B.eN, B.esc]; exact blkOk_by hok)
    hg ht (fun s0 H0 C cl fp => ⟨fun pins s σ H R I h => h s0 H0 C cl fp pins s I⟩) hs) (lcI_read B ct h s m fun v H' ⟨u, M', t, m', r, q⟩ => ⟨_, M', t, (s.mono t).set iy r, m', q⟩)
/-- the targets: a name; two, three, four names -/
theorem pgI1 (B : Bd P w K mg base CX N sc fl k X) {px : Pos} (hi : At N i x) (hx : (scBlk scope sc).names.lookup x = some .local) : ∀ (s0 : Shared) (H0 : Hp) (C : Addr) (cl : List (Str × Addr)) (fp : List Addr), PG (X.blk s0 H0 scope (compEnvC scope cl C X.env) fp) (.Name x px) (gName i) := fun s0 H0 C cl fp => B.pgB hi hx s0 H0 C cl fp
end
end
end G3

set_option Elab.async false
set_option linter.all false
set_option maxRecDepth 100000
set_option maxHeartbeats 4000000
/-! L3: comprehensions item by item; sorted -/
namespace G3
open PySem PySem.Spec L2
/-- item by item, some left out -/
inductive FR {α β : Type} (T : α → Bool → Prop) (G : α → β → Prop) : List α → List β → Prop
  | nil : FR T G [] []
  | skip {z : α} {zs : List α} {ys : List β} : T z false → FR T G zs ys → FR T G (z :: zs) ys
  | take {z : α} {zs : List α} {y : β} {ys : List β} : T z true → G z y → FR T G zs ys → FR T G (z :: zs) (y :: ys)
section
variable {α β : Type} {T : α → Bool → Prop} {G : α → β → Prop}
theorem FR.append {xs zs : List α} {ys us : List β} (h : FR T G xs ys) (k : FR T G zs us) : FR T G (xs ++ zs) (ys ++ us) := by
  induction h with
  | nil => exact k
  | skip t _ ih => exact .skip t ih
  | take t g _ ih => exact .take t g ih
theorem FR.len {xs : List α} {ys : List β} (h : FR T G xs ys) : ys.length ≤ xs.length := by
  induction h with
  | nil => exact Nat.le_refl _
  | skip t _ ih => exact Nat.le_succ_of_le ih
  | take t g _ ih => exact Nat.succ_le_succ ih
theorem FR.pure {t : α → Bool} {f : α → β} {xs : List α} {ys : List β} (h : FR (fun z b => b = t z) (fun z y => y = f z) xs ys) : ys = (xs.filter t).map f := by
  induction h with
  | nil => rfl
  | @skip z zs ys e _ ih => rw [List.filter_cons_of_neg (by rw [← e]; exact Bool.false_ne_true)]; exact ih
  | @take z zs y ys e g _ ih => rw [List.filter_cons_of_pos e.symm, List.map_cons, ih, g]
theorem FR.all {f : α → β} {xs : List α} {ys : List β} (h : FR (fun _ b => b = true) (fun z y => y = f z) xs ys) : ys = xs.map f := by
  induction h with
  | nil => rfl
  | @skip z zs ys e _ ih => cases e
  | @take z zs y ys e g _ ih => rw [List.map_cons, ih, g]
theorem FR.mem {xs : List α} {ys : List β} (h : FR T G xs ys) {y : β} (hy : y ∈ ys) : ∃ z ∈ xs, G z y ∧ T z true := by
  induction h with
  | nil => cases hy
  | @skip z zs ys e _ ih => obtain ⟨z', h1, h2⟩ := ih hy; exact ⟨z', List.mem_cons_of_mem _ h1, h2⟩
  | @take z zs y' ys e g _ ih =>
    rcases List.mem_cons.mp hy with rfl | hy
    · exact ⟨z, List.mem_cons_self, g, e⟩
    · obtain ⟨z', h1, h2⟩ := ih hy; exact ⟨z', List.mem_cons_of_mem _ h1, h2⟩
theorem FR.full {xs : List α} {ys : List β} (h : FR (fun _ b => b = true) G xs ys) : ys.length = xs.length := by
  induction h with
  | nil => rfl
  | skip e _ ih => cases e
  | take e g _ ih => rw [List.length_cons, List.length_cons, ih]
theorem FR.get {xs : List α} {ys : List β} (h : FR (fun _ b => b = true) G xs ys) : ∀ {i : Nat} {z : α}, xs[i]? = some z → ∃ y, ys[i]? = some y ∧ G z y := by
  induction h with
  | nil => intro i z e; cases e
  | skip e _ ih => cases e
  | @take z zs y ys e g _ ih =>
    intro i x ex
    cases i with
    | zero => cases ex; exact ⟨y, rfl, g⟩
    | succ i => exact ih (i := i) ex
end
section
variable {elt c : Expr} {own : List Nat} {sel : VV → List VV → Prop} {it : It3} {R : VQ} {σ : St3} {M : Mp} {α : Type}
variable {P : Program} {w : World} {K : PySem.W.Frag} {mg : Str → Option Value} {base : Heap} {CX : CXT} {N : List Str} {sc' : Scope} {k : Nat}
/-- the items stand for xs -/
structure Itm (it : It3) (M : Mp) (xs : List α) (Pz : α → VV → Prop) : Prop where
  n : it.n = xs.length
  item : ∀ j u, j < it.n → it.item j u → ∃ z, xs[j]? = some z ∧ Pz z u
  hold : ∀ M', LeM M M' → it.hold M'
  size : xs.length ≤ sizeLine
theorem compI_rel (xs : List α) {Pz : α → VV → Prop} (hi : Itm it M xs Pz) (G : α → VV → Prop)
    (he : ∀ z u M', z ∈ xs → Pz z u → LeM M M' → ∃ us, sel u us ∧ ∀ Y : Cx, Bd P w K mg base CX N sc' false k Y → WE Y elt (putA (wipeA σ own) own us) M' fun y M2 => G z y ∧ LeM M' M2)
    (q : ∀ D, M D = none → ∀ ys M', FR (fun _ b => b = true) G xs ys → LeM (updM M D (.lst ys)) M' → R (.ref D) M') : CompI P w K mg base CX N sc' k elt [] own sel R it σ M := fun D hD => by
  obtain ⟨hn, hitem, hhold, hz⟩ := hi
  refine ⟨fun j M' => ∃ ys, FR (fun _ b => b = true) G (xs.take j) ys ∧ LeM (updM M D (.lst ys)) M', ⟨[], .nil, LeM.refl⟩, fun j M' _ ⟨ys, _, l⟩ => hhold _ ((LeM.new hD).trans l), ?_, ?_⟩
  · rintro j u M' hj hu ⟨ys, fr, l⟩
    obtain ⟨z, hz', pz⟩ := hitem j u hj hu
    obtain ⟨us, hs, hb⟩ := he z u M' (List.mem_of_getElem? hz') pz ((LeM.new hD).trans l)
    refine ⟨us, hs, fun Y B Y' B' => (hb Y' B').mono fun y M2 ⟨g, l2⟩ => ⟨ys, l2 _ _ (l _ _ updM_same), ?_, ys ++ [y], ?_, ?_⟩⟩
    · have := fr.full
      rw [List.length_take] at this
      omega
    · rw [List.take_add_one, hz']
      exact fr.append (.take rfl g .nil)
    · have l3 := LeM.upd (p := D) (o := .lst (ys ++ [y])) (l.trans l2)
      rw [updM_updM] at l3
      exact l3
  · rintro M' ⟨ys, fr, l⟩
    rw [hn, List.take_length] at fr
    exact q D hD ys M' fr l
theorem compI_frel (xs : List α) {Pz : α → VV → Prop} (hi : Itm it M xs Pz) (T : α → Bool → Prop) (G : α → VV → Prop)
    (he : ∀ z u M', z ∈ xs → Pz z u → LeM M M' → ∃ us, sel u us ∧ ∀ Y : Cx, Bd P w K mg base CX N sc' false k Y → WT Y c (putA (wipeA σ own) own us) M' fun b M1 => T z b ∧ LeM M' M1 ∧ (b = true → ∀ Y' : Cx, Bd P w K mg base CX N sc' false k Y' → WE Y' elt (putA (wipeA σ own) own us) M1 fun y M2 => G z y ∧ LeM M1 M2))
    (q : ∀ D, M D = none → ∀ ys M', FR T G xs ys → LeM (updM M D (.lst ys)) M' → R (.ref D) M') : CompI P w K mg base CX N sc' k elt [c] own sel R it σ M := fun D hD => by
  obtain ⟨hn, hitem, hhold, hz⟩ := hi
  refine ⟨fun j M' => ∃ ys, FR T G (xs.take j) ys ∧ LeM (updM M D (.lst ys)) M', ⟨[], .nil, LeM.refl⟩, fun j M' _ ⟨ys, _, l⟩ => hhold _ ((LeM.new hD).trans l), ?_, ?_⟩
  · rintro j u M' hj hu ⟨ys, fr, l⟩
    obtain ⟨z, hz', pz⟩ := hitem j u hj hu
    obtain ⟨us, hs, hb⟩ := he z u M' (List.mem_of_getElem? hz') pz ((LeM.new hD).trans l)
    refine ⟨us, hs, fun Y B => ?_⟩
    refine fun σ' H s m => (hb Y B σ' H s m).mono fun b H1 ⟨M1, t1, m1, hT, l1, hE⟩ => ⟨M1, t1, m1, ?_⟩
    cases b with
    | false =>
      rw [if_neg Bool.false_ne_true]
      refine ⟨ys, ?_, l.trans l1⟩
      rw [List.take_add_one, hz']
      have := fr.append (.skip hT .nil)
      rw [List.append_nil] at this
      exact this
    | true =>
      rw [if_pos rfl]
      intro Y' B'
      refine (hE rfl Y' B').mono fun y M2 ⟨g, l2⟩ => ⟨ys, l2 _ _ (l1 _ _ (l _ _ updM_same)), ?_, ys ++ [y], ?_, ?_⟩
      · have := fr.len
        rw [List.length_take] at this
        omega
      · rw [List.take_add_one, hz']
        exact fr.append (.take hT g .nil)
      · have l3 := LeM.upd (p := D) (o := .lst (ys ++ [y])) ((l.trans l1).trans l2)
        rw [updM_updM] at l3
        exact l3
  · rintro M' ⟨ys, fr, l⟩
    rw [hn, List.take_length] at fr
    exact q D hD ys M' fr l
theorem compI_map (xs : List α) {Pz : α → VV → Prop} (hi : Itm it M xs Pz) (f : α → VV)
    (he : ∀ z u M', z ∈ xs → Pz z u → LeM M M' → ∃ us, sel u us ∧ ∀ Y : Cx, Bd P w K mg base CX N sc' false k Y → WE Y elt (putA (wipeA σ own) own us) M' fun y M2 => y = f z ∧ LeM M' M2)
    (q : ∀ D, M D = none → ∀ M', LeM (updM M D (.lst (xs.map f))) M' → R (.ref D) M') : CompI P w K mg base CX N sc' k elt [] own sel R it σ M :=
  compI_rel xs hi (fun z y => y = f z) he fun D hD ys M' fr l => q D hD M' (by rw [← fr.all]; exact l)
theorem compI_filter (xs : List α) {Pz : α → VV → Prop} (hi : Itm it M xs Pz) (t : α → Bool) (f : α → VV)
    (he : ∀ z u M', z ∈ xs → Pz z u → LeM M M' → ∃ us, sel u us ∧ ∀ Y : Cx, Bd P w K mg base CX N sc' false k Y → WT Y c (putA (wipeA σ own) own us) M' fun b M1 => b = t z ∧ LeM M' M1 ∧ (b = true → ∀ Y' : Cx, Bd P w K mg base CX N sc' false k Y' → WE Y' elt (putA (wipeA σ own) own us) M1 fun y M2 => y = f z ∧ LeM M1 M2))
    (q : ∀ D, M D = none → ∀ M', LeM (updM M D (.lst ((xs.filter t).map f))) M' → R (.ref D) M') : CompI P w K mg base CX N sc' k elt [c] own sel R it σ M :=
  compI_frel xs hi (fun z b => b = t z) (fun z y => y = f z) he fun D hD ys M' fr l => q D hD M' (by rw [← fr.pure]; exact l)
/-! the items of what is walked -/
theorem itm_lst {u : VV} {xs : List α} {v : α → VV} (hl : Lst M u (xs.map v)) (hz : xs.length ≤ sizeLine) : Itm (itL u (xs.map v)) M xs (fun z y => y = v z) :=
  ⟨List.length_map _, fun j y _ h => by
    have h' : (xs.map v)[j]? = some y := h
    rw [List.getElem?_map] at h'
    obtain ⟨z, h1, h2⟩ := Option.map_eq_some_iff.mp h'
    exact ⟨z, h1, h2.symm⟩, fun M' l => hl.le l, hz⟩
theorem itm_tup {xs : List α} {v : α → VV} (hz : xs.length ≤ sizeLine) : Itm (itT (xs.map v)) M xs (fun z y => y = v z) :=
  ⟨List.length_map _, fun j y _ h => by
    have h' : (xs.map v)[j]? = some y := h
    rw [List.getElem?_map] at h'
    obtain ⟨z, h1, h2⟩ := Option.map_eq_some_iff.mp h'
    exact ⟨z, h1, h2.symm⟩, fun M' l => trivial, hz⟩
theorem itm_rng {lo : Int} {n : Nat} (hz : n ≤ sizeLine) : Itm (itR lo n) M (List.range n) (fun z y => y = .int (lo + z)) :=
  ⟨List.length_range.symm, fun j y hj h => ⟨j, List.getElem?_range hj, h⟩, fun M' l => trivial, by rw [List.length_range]; exact hz⟩
theorem itm_zip {β : Type} {u u2 : VV} {xs : List α} {ys : List β} {v : α → VV} {v2 : β → VV} (hl : Lst M u (xs.map v)) (hl2 : Lst M u2 (ys.map v2)) (hz : xs.length ≤ sizeLine) : Itm (itZ u u2 (xs.map v) (ys.map v2)) M (xs.zip ys) (fun z y => y = .tup [v z.1, v2 z.2]) :=
  ⟨by show min (xs.map v).length (ys.map v2).length = _; rw [List.length_map, List.length_map, List.length_zip], fun j y _ h => by
    obtain ⟨w, w2, h1, h2, e⟩ := h
    rw [List.getElem?_map] at h1 h2
    obtain ⟨z, g1, rfl⟩ := Option.map_eq_some_iff.mp h1
    obtain ⟨z2, g2, rfl⟩ := Option.map_eq_some_iff.mp h2
    exact ⟨(z, z2), List.getElem?_zip_eq_some.mpr ⟨g1, g2⟩, e⟩, fun M' l => ⟨hl.le l, hl2.le l⟩, by rw [List.length_zip]; omega⟩
theorem itm_enum {u : VV} {xs : List α} {v : α → VV} (hl : Lst M u (xs.map v)) (hz : xs.length ≤ sizeLine) : Itm (itE u (xs.map v)) M xs.zipIdx (fun z y => y = .tup [.int z.2, v z.1]) :=
  ⟨by show (xs.map v).length = _; rw [List.length_map, List.length_zipIdx], fun j y _ h => by
    obtain ⟨w, h1, e⟩ := h
    rw [List.getElem?_map] at h1
    obtain ⟨z, g1, rfl⟩ := Option.map_eq_some_iff.mp h1
    exact ⟨(z, j), by rw [List.getElem?_zipIdx, g1]; simp, e⟩, fun M' l => hl.le l, by rw [List.length_zipIdx]; exact hz⟩
theorem itm_items {kvs : List (Key × VV)} (hz : kvs.length ≤ sizeLine) : Itm (itItems (kvs.map (·.1)) (kvs.map (·.2))) M kvs (fun z y => y = .tup [kW z.1, z.2]) :=
  ⟨List.length_map _, fun j y _ h => by
    obtain ⟨k, w, h1, h2, e⟩ := h
    rw [List.getElem?_map] at h1 h2
    obtain ⟨z, g1, rfl⟩ := Option.map_eq_some_iff.mp h1
    obtain ⟨z2, g2, rfl⟩ := Option.map_eq_some_iff.mp h2
    rw [g1] at g2
    cases g2
    exact ⟨z, g1, e⟩, fun M' l => trivial, hz⟩
theorem itm_keys {ks : List Key} (hz : ks.length ≤ sizeLine) : Itm (itKeys ks) M ks (fun z y => y = kW z) :=
  ⟨rfl, fun j y _ h => h, fun M' l => trivial, hz⟩
theorem itm_vals {ws : List VV} (hz : ws.length ≤ sizeLine) : Itm (itVals ws) M ws (fun z y => y = z) :=
  ⟨rfl, fun j y _ h => ⟨y, h, rfl⟩, fun M' l => trivial, hz⟩
end
/-! ### sorted -/
section
variable {X : Cx} {M : Mp} {Q : VQ}
theorem each_of {α β γ : Type} {R : α → β → Prop} : ∀ {as : List α} {bs : List β}, as.length = bs.length → (∀ (i : Nat) a b, as[i]? = some a → bs[i]? = some b → R a b) → PySem.W.EachIs R as bs
  | [], [], _, _ => .nil
  | [], _ :: _, h, _ => by cases h
  | _ :: _, [], h, _ => by cases h
  | a :: as, b :: bs, h, k => .cons (k 0 a b rfl rfl) (each_of (γ := γ) (by simpa using h) fun i x y h1 h2 => k (i + 1) x y h1 h2)
theorem DWs.length : ∀ {ws : List VV} {ds : List PyData}, DWs M ws ds → ws.length = ds.length
  | [], _, h => by cases h; rfl
  | w :: ws, _, h => by
    cases h with
    | cons _ h2 => rw [List.length_cons, List.length_cons, DWs.length h2]
theorem each_split {K : PySem.W.Frag} {H : Hp} {β : Type} {f : β → VV} : ∀ {out : List Value} {bs : List β}, PySem.W.EachIs (fun u b => ∃ v, RelV v u ∧ Rv K H v (f b)) out bs → ∃ vs, Vals vs out ∧ Rvs K H vs (bs.map f)
  | [], _, h => by cases h; exact ⟨[], .nil, .nil⟩
  | u :: out, _, h => by
    cases h with
    | cons h1 h2 =>
      obtain ⟨v, r1, r2⟩ := h1
      obtain ⟨vs, r3, r4⟩ := each_split h2
      exact ⟨v :: vs, .cons r1 r3, .cons r2 r4⟩
/-- sorted of data of one kind -/
theorem oc_sortD {w : VV} {ws : List VV} {ds : List PyData} (h : Lst M w ws) (hd : DWs M ws ds) (hal : PySem.W.AllAlike ds) (hk : PySem.W.Sortable ds) (hz : ws.length ≤ sizeLine) (hu : ∀ d ∈ ds, X.A.units + 2 + d.depth < cLine)
    (q : ∀ p, M p = none → Q (.ref p) (updM M p (.lst (((ws.zip ds).mergeSort (PySem.W.dataLe false (·.2))).map (·.1))))) : OC X (.builtin "sorted") [w] M Q := fun H vs m r => by
  cases r with
  | cons r1 r2 =>
    cases r2
    obtain ⟨ad, vs, rfl, h1, h2⟩ := h.v m r1
    intro pins s σ us I rv
    obtain ⟨its, rvs, hl, hsz⟩ := I.list h1
    rw [Vals.ref1 rv]
    obtain ⟨as, hall⟩ := Dp.readsAll I _ _ _ (hd.dp m _ _ _ h2) rvs
    have hlw : ws.length = ds.length := hd.length
    have e2 : (ws.zip ds).map (·.2) = ds := by rw [List.map_snd_zip (by omega)]
    have l1 : its.length = (ws.zip ds).length := by
      rw [List.length_zip, ← rvs.length, h2.length]; omega
    refine PySem.W.sorted_data (vs := its) (bs := ws.zip ds) (enc := (·.2)) (R := fun u b => ∃ v, RelV v u ∧ Rv X.K H v b.1) hl.isList ?_ ?_ (by rw [e2]; exact hal) (by rw [e2]; exact hk) (by rw [List.length_zip]; omega) (fun b hb => hu _ ?_) fun out ho eo => ?_
    · refine each_of (γ := Nat) l1 fun i u b hi hb => ?_
      obtain ⟨v, hv, rv'⟩ := vals_get rvs hi
      obtain ⟨w', hw, rw'⟩ := h2.get' hv
      obtain ⟨g1, g2⟩ := List.getElem?_zip_eq_some.mp hb
      rw [hw] at g1
      cases g1
      exact ⟨v, rv', rw'⟩
    · refine each_of (γ := Nat) l1 fun i u b hi hb => ?_
      obtain ⟨d, bs, hd1, hd2⟩ := readsAll_get hall hi
      obtain ⟨g1, g2⟩ := List.getElem?_zip_eq_some.mp hb
      rw [hd1] at g2
      cases g2
      exact ⟨bs, hd2⟩
    · rw [← e2]; exact List.mem_map.mpr ⟨b, hb, rfl⟩
    · obtain ⟨vo, rvo, rro⟩ := each_split (f := fun b : VV × PyData => b.1) eo
      obtain ⟨n, hn⟩ := PyProof.Rows.sortedAll_at s.heap its out.toArray
      have hf : H (s.heap.objs.size + 1) = none := I.hok.fresh (Nat.le_succ _)
      refine ⟨.ref (s.heap.objs.size + 1), upd H (s.heap.objs.size + 1) (.lst vo), I.laid (t' := s.toks) (fun b o e => PyProof.Rows.sortedAll_old e) (Nat.le_succ _) ⟨?_, out, n, rvo, hn⟩, rfl, .ref _, _, TM.fresh hf, m.putL (TM.fresh hf) (.inl hf) rro, .ref _, q _ (m.no hf)⟩
      rw [rvo.length, ho, List.length_zip]; omega
/-- .. of a Lean type with an order -/
theorem oc_sortT {α : Type} [DecidableEq α] [PySem.W.DatumOrd α] {w : VV} {xs : List α} {v : α → VV} (hu : X.A.units + 2 + PySem.W.Datum.depth α < cLine) (h : Lst M w (xs.map v)) (hd : ∀ x, DW M (v x) (PySem.W.Datum.toD x)) (hk : PySem.W.Sortable (xs.map PySem.W.Datum.toD)) (hz : xs.length ≤ sizeLine)
    (q : ∀ p, M p = none → Q (.ref p) (updM M p (.lst ((xs.mergeSort fun a b => !PySem.W.DatumOrd.lt b a).map v)))) : OC X (.builtin "sorted") [w] M Q := by
  refine oc_sortD h (dws_map hd xs) (PySem.W.AllAlike.of fun a b => PySem.W.DatumOrd.alike a b) hk (by rw [List.length_map]; exact hz) (fun d hd => ?_) fun p hp => ?_
  · obtain ⟨x, _, rfl⟩ := List.mem_map.mp hd
    exact Nat.lt_of_le_of_lt (Nat.add_le_add_left (PySem.W.Datum.depth_le x) _) hu
  · have e : (xs.map v).zip (xs.map PySem.W.Datum.toD) = xs.map fun x => (v x, PySem.W.Datum.toD x) := List.zip_map'
    rw [e, ← List.map_mergeSort (r := fun a b => !PySem.W.DatumOrd.lt b a) (fun a _ b _ => by
      show (!PySem.W.DatumOrd.lt b a) = PySem.W.dataLe false (·.2) (v a, PySem.W.Datum.toD a) (v b, PySem.W.Datum.toD b)
      rw [PySem.W.dataLe_eq]
      show _ = !PySem.W.dataLt (PySem.W.Datum.toD b) (PySem.W.Datum.toD a)
      rw [PySem.W.DatumOrd.lt_eq]), List.map_map]
    exact q p hp
end
end G3

set_option Elab.async false
set_option linter.all false
set_option maxRecDepth 100000
set_option maxHeartbeats 4000000
/-! L3: targets of several names, zip of tuples, further operators -/
namespace G3
open PySem PySem.Spec L2
section
variable {X : Cx} {a b c e tg : Expr} {es : List Expr} {σ : St3} {M : Mp} {Q : VQ} {D : En} {pos : Pos} {x y z : Str} {i j l : Nat}
variable {P : Program} {w : World} {K : PySem.W.Frag} {mg : Str → Option Value} {base : Heap} {CX : CXT} {N : List Str} {sc scope : Scope} {fl : Bool} {k : Nat}
abbrev g1 (i : Nat) : TGs := gCons (gName i) gNil
theorem pgI2 (B : Bd P w K mg base CX N sc fl k X) {px py pt : Pos} {kk : Nat} (hi : At N i x) (hx : (scBlk scope sc).names.lookup x = some .local) (hj : At N j y) (hy : (scBlk scope sc).names.lookup y = some .local) :
    ∀ (s0 : Shared) (H0 : Hp) (C : Addr) (cl : List (Str × Addr)) (fp : List Addr), PG (X.blk s0 H0 scope (compEnvC scope cl C X.env) fp) (.Tuple [.Name x px, .Name y py] kk pt) (gTup K 2 (gCons (gName i) (g1 j))) := fun s0 H0 C cl fp => by
  have z := pg_tup (X := X.blk s0 H0 scope (compEnvC scope cl C X.env) fp) (pos := pt) (k := kk) B.calm (pgs_cons (B.pgB (px := px) hi hx s0 H0 C cl fp) (pgs_cons (B.pgB (px := py) hj hy s0 H0 C cl fp) pgs_nil)) rfl rfl
  have e : (X.blk s0 H0 scope (compEnvC scope cl C X.env) fp).K = K := B.eK
  rw [e] at z
  exact z
theorem ctgs1 {K : PySem.W.Frag} {i : Nat} : CTgs K (g1 i) [i] (fun ws us => ∃ w, ws = [w] ∧ us = [w]) := fun σ' H xs ws us Z r e h =>
  ctgs_cons (K := K) (ctg_name (i := i)) (fun w us e => by rw [e]; rfl) ctgs_nil σ' H xs ws us Z r (by obtain ⟨w, rfl, rfl⟩ := e; exact ⟨w, [], [w], [], rfl, rfl, rfl, rfl, rfl⟩) h
theorem ctgs_n {K : PySem.W.Frag} {i : Nat} {ts : TGs} {owns : List Nat} {sels : List VV → List VV → Prop} (h2 : CTgs K ts owns sels) : CTgs K (gCons (gName i) ts) (i :: owns) (fun ws us => ∃ w wr ur, ws = w :: wr ∧ us = w :: ur ∧ sels wr ur) := fun σ' H xs ws us Z r e h =>
  ctgs_cons (K := K) (ctg_name (i := i)) (fun w us e => by rw [e]; rfl) h2 σ' H xs ws us Z r (by obtain ⟨w, wr, ur, rfl, rfl, e⟩ := e; exact ⟨w, wr, [w], ur, rfl, rfl, rfl, e⟩) h
/-- (x, y) -/
theorem ctg2 {K : PySem.W.Frag} {i j : Nat} : CTg K (gTup K 2 (gCons (gName i) (g1 j))) [i, j] (fun w us => ∃ a b, w = .tup [a, b] ∧ us = [a, b]) := ⟨fun σ' H x w us Z r e h =>
  (ctg_tup (n := 2) (ctgs_n (i := i) (ctgs1 (i := j)))).run σ' H x w us Z r (by obtain ⟨a, b, rfl, rfl⟩ := e; exact ⟨_, rfl, rfl, a, [b], [b], rfl, rfl, b, rfl, rfl⟩) h⟩
theorem pgI3 (B : Bd P w K mg base CX N sc fl k X) {px py pz pt : Pos} {kk : Nat} (hi : At N i x) (hx : (scBlk scope sc).names.lookup x = some .local) (hj : At N j y) (hy : (scBlk scope sc).names.lookup y = some .local) (hl : At N l z) (hz : (scBlk scope sc).names.lookup z = some .local) :
    ∀ (s0 : Shared) (H0 : Hp) (C : Addr) (cl : List (Str × Addr)) (fp : List Addr), PG (X.blk s0 H0 scope (compEnvC scope cl C X.env) fp) (.Tuple [.Name x px, .Name y py, .Name z pz] kk pt) (gTup K 3 (gCons (gName i) (gCons (gName j) (g1 l)))) := fun s0 H0 C cl fp => by
  have z := pg_tup (X := X.blk s0 H0 scope (compEnvC scope cl C X.env) fp) (pos := pt) (k := kk) B.calm (pgs_cons (B.pgB (px := px) hi hx s0 H0 C cl fp) (pgs_cons (B.pgB (px := py) hj hy s0 H0 C cl fp) (pgs_cons (B.pgB (px := pz) hl hz s0 H0 C cl fp) pgs_nil))) rfl rfl
  have e : (X.blk s0 H0 scope (compEnvC scope cl C X.env) fp).K = K := B.eK
  rw [e] at z
  exact z
theorem ctg3 {K : PySem.W.Frag} {i j l : Nat} : CTg K (gTup K 3 (gCons (gName i) (gCons (gName j) (g1 l)))) [i, j, l] (fun w us => ∃ a b c, w = .tup [a, b, c] ∧ us = [a, b, c]) := ⟨fun σ' H x w us Z r e h =>
  (ctg_tup (n := 3) (ctgs_n (i := i) (ctgs_n (i := j) (ctgs1 (i := l))))).run σ' H x w us Z r (by obtain ⟨a, b, c, rfl, rfl⟩ := e; exact ⟨_, rfl, rfl, a, _, _, rfl, rfl, b, [c], [c], rfl, rfl, c, rfl, rfl⟩) h⟩
def itZT (ws ws2 : List VV) : It3 := ⟨min ws.length ws2.length, fun i v => ∃ w w2, ws[i]? = some w ∧ ws2[i]? = some w2 ∧ v = .tup [w, w2], fun _ => True⟩
/-- zip of two lists, or of two tuples -/
theorem wi_zipA (B : Bd P w K mg base CX N sc fl k X) {e2 : Expr} {p pos' tpos : Pos} {elts : List Expr} {kk : Nat} {R : It3 → Mp → Prop} (hg : sc.names.lookup ("zip" : Str) = some .globalImplicit) (hm : mg "zip" = none)
    (h : WA X [e, e2] σ M fun us M1 => ∃ u u2 ws ws2, us = [u, u2] ∧ ((Lst M1 u ws ∧ Lst M1 u2 ws2 ∧ R (itZ u u2 ws ws2) M1) ∨ (u = .tup ws ∧ u2 = .tup ws2 ∧ R (itZT ws ws2) M1)))
    (hst : starEach [e, e2] X.env = (false, eval e X.env) :: starEach [e2] X.env := by rfl) (hpl : (backTo pos' (starEach [e2] X.env)).any (·.1) = false := by rfl) : WI X (.Tuple elts kk tpos) (.Call (.Name "zip" p) [e, e2] [] pos') σ M R := fun σ' H s m =>
  wI.of (RZ.pi_zipA (by show X.env.scope.names.lookup _ = _; rw [B.esc]; exact hg) (by rw [B.emg]; exact hm) wA.pa hst hpl) (h.run s m fun vs0 H1 us M1 t1 m1 r1 s1 ⟨u, u2, ws, ws2, eus, hor⟩ => by
    subst eus
    cases r1 with | cons r1 r2 =>
    cases r2 with | cons r2 r3 =>
    cases r3
    rcases hor with ⟨hl, hl2, q⟩ | ⟨hu1, hu2, q⟩
    · obtain ⟨a, vs, rfl, h1, h2⟩ := hl.v m1 r1
      obtain ⟨a2, vs2, rfl, h12, h22⟩ := hl2.v m1 r2
      refine ⟨a, a2, vs, vs2, rfl, .inl ⟨h1, h12, _, M1, t1, m1, ?_, q⟩⟩
      intro i M2 H2 t2 m2 hh hi
      obtain ⟨hh1, hh2⟩ := (show Lst M2 u ws ∧ Lst M2 u2 ws2 from hh)
      obtain ⟨a', xs, e', q1, rv⟩ := hh1.v m2 (Rv.mono t2 _ _ r1)
      obtain ⟨a'', xs2, e'', q12, rv2⟩ := hh2.v m2 (Rv.mono t2 _ _ r2)
      cases e'; cases e''
      have hlen := rv.length
      have hlen2 := rv2.length
      change i ≤ min ws.length ws2.length at hi
      by_cases hlt : i < min ws.length ws2.length
      · have hlt1 : i < ws.length := by omega
        have hlt2 : i < ws2.length := by omega
        obtain ⟨x, hx, rx⟩ := rv.get (i := i) (w := ws[i]) (by simp [hlt1])
        obtain ⟨x2, hx2, rx2⟩ := rv2.get (i := i) (w := ws2[i]) (by simp [hlt2])
        refine .inr ⟨hlt, ⟨xs, xs2, x, x2, q1, q12, hx, hx2⟩, fun y H' hy => ?_⟩
        obtain ⟨T, x', y', rfl, hT, rfl, hy, hy2⟩ := hy
        have ey := hy xs q1
        have ey2 := hy2 xs2 q12
        rw [hx] at ey
        rw [hx2] at ey2
        cases ey
        cases ey2
        have tT : TM H2 (upd H2 T (.tup [x, x2])) := TM.fresh hT
        exact ⟨_, ⟨ws[i], ws2[i], by simp [hlt1], by simp [hlt2], rfl⟩, tT, m2.alloc hT, .tup (SqT.of upd_same) (.cons (Rv.mono tT _ _ rx) (.cons (Rv.mono tT _ _ rx2) .nil))⟩
      · exact .inl ⟨by show i = min ws.length ws2.length; omega, xs, xs2, q1, q12, by omega⟩
    · subst hu1 hu2
      obtain ⟨a, xs, rfl, h1, rv0⟩ := r1.tupv
      obtain ⟨a2, xs2, rfl, h12, rv20⟩ := r2.tupv
      refine ⟨a, a2, xs, xs2, rfl, .inr ⟨h1, h12, _, M1, t1, m1, ?_, q⟩⟩
      intro i M2 H2 t2 m2 hh hi
      have q1 := SqT.mono t2 h1
      have q12 := SqT.mono t2 h12
      have rv := Rvs.mono t2 _ _ rv0
      have rv2 := Rvs.mono t2 _ _ rv20
      have hlen := rv.length
      have hlen2 := rv2.length
      change i ≤ min ws.length ws2.length at hi
      by_cases hlt : i < min ws.length ws2.length
      · have hlt1 : i < ws.length := by omega
        have hlt2 : i < ws2.length := by omega
        obtain ⟨x, hx, rx⟩ := rv.get (i := i) (w := ws[i]) (by simp [hlt1])
        obtain ⟨x2, hx2, rx2⟩ := rv2.get (i := i) (w := ws2[i]) (by simp [hlt2])
        refine .inr ⟨hlt, ⟨xs, xs2, x, x2, q1, q12, hx, hx2⟩, fun y H' hy => ?_⟩
        obtain ⟨T, x', y', rfl, hT, rfl, hy, hy2⟩ := hy
        have ey := hy xs q1
        have ey2 := hy2 xs2 q12
        rw [hx] at ey
        rw [hx2] at ey2
        cases ey
        cases ey2
        have tT : TM H2 (upd H2 T (.tup [x, x2])) := TM.fresh hT
        exact ⟨_, ⟨ws[i], ws2[i], by simp [hlt1], by simp [hlt2], rfl⟩, tT, m2.alloc hT, .tup (SqT.of upd_same) (.cons (Rv.mono tT _ _ rx) (.cons (Rv.mono tT _ _ rx2) .nil))⟩
      · exact .inl ⟨by show i = min ws.length ws2.length; omega, xs, xs2, q1, q12, by omega⟩)
/-! operators -/
theorem o2_rep {p : Addr} {us : List VV} {n : Int} (h1 : M p = some (.lst us)) (h0 : -(2 ^ 63) ≤ n ∧ n < 2 ^ 63) (hz : us.length * n.toNat ≤ sizeLine) (q : ∀ l, M l = none → Q (.ref l) (updM M l (.lst (List.replicate n.toNat us).flatten))) : O2 X (binaryOp .Mult) (.ref p) (.int n) M Q := fun H v u m r1 r2 => by
  cases r1; cases r2
  obtain ⟨vs, g1, g2⟩ := m _ _ h1
  refine wOp.of op_rep ⟨p, n, vs, rfl, rfl, g1, h0.1, h0.2, by rw [g2.length]; exact hz, fun l hl => ⟨.ref l, _, TM.fresh hl, m.putL (TM.fresh hl) (.inl hl) ?_, .ref l, q l (m.no hl)⟩⟩
  have rep : ∀ k : Nat, Rvs X.K H (List.replicate k vs).flatten (List.replicate k us).flatten := fun k => by
    induction k with
    | zero => exact .nil
    | succ k ih => rw [List.replicate_succ, List.replicate_succ, List.flatten_cons, List.flatten_cons]; exact g2.append ih
  exact rep _
theorem o2_notB {a b : Bool} (q : Q (.bl (!decide (a = b))) M) : O2 X (compareOp .IsNot) (.bl a) (.bl b) M Q := fun H v u m r1 r2 => by
  cases r1; cases r2
  exact wOp.of op_notBl ⟨_, _, rfl, rfl, .mk m (.bl _) q⟩
theorem o2_isB {a b : Bool} (q : Q (.bl (decide (a = b))) M) : O2 X (compareOp .Is) (.bl a) (.bl b) M Q := fun H v u m r1 r2 => by
  cases r1; cases r2
  exact wOp.of op_isBl ⟨_, _, rfl, rfl, .mk m (.bl _) q⟩
/-- xs[:-1] -/
theorem cut_but {ws : List VV} {x : VV} : cutW (ws ++ [x]) none (some (-1)) = ws := by
  unfold cutW
  have e : HT.sIx (ws ++ [x]).length (ws ++ [x]).length (some (-1)) = ws.length := by
    have hl : (ws ++ [x]).length = ws.length + 1 := by rw [List.length_append]; rfl
    rw [hl]
    unfold HT.sIx
    simp
    omega
  rw [e, HT.sIx_none, List.drop_zero, Nat.sub_zero, List.take_left']
  rfl
end
end G3

set_option Elab.async false
set_option linter.all false
set_option maxRecDepth 100000
set_option maxHeartbeats 4000000
/-! L3: == of what is alike by content -/
namespace G3
open PySem PySem.Spec L2
section
variable {X : Cx} {M : Mp} {Q : VQ}
theorem des_data {n : Nat} : ∀ (us vs : List VV), us.length = vs.length → (∀ (j : Nat) x y, us[j]? = some x → vs[j]? = some y → ∃ d, DW M x d ∧ DW M y d ∧ d.plain = true ∧ d.depth ≤ n) →
    ∃ ds, DWs M us ds ∧ DWs M vs ds ∧ PyData.plainAll ds = true ∧ PyData.depthAll ds ≤ n
  | [], [], _, _ => ⟨[], .nil, .nil, by simp only [PyData.plainAll], by simp only [PyData.depthAll]; omega⟩
  | [], _ :: _, h, _ => by cases h
  | _ :: _, [], h, _ => by cases h
  | u :: us, v :: vs, h, k => by
    obtain ⟨d, d1, d2, d3, d4⟩ := k 0 u v rfl rfl
    obtain ⟨ds, e1, e2, e3, e4⟩ := des_data us vs (by simpa using h) fun j x y h1 h2 => k (j + 1) x y h1 h2
    exact ⟨d :: ds, .cons d1 e1, .cons d2 e2, by simp only [PyData.plainAll, d3, e3, Bool.and_self], by simp only [PyData.depthAll]; omega⟩
theorem DE.data {n : Nat} {u v : VV} (h : DE M n u v) : ∃ d, DW M u d ∧ DW M v d ∧ d.plain = true ∧ d.depth ≤ n := by
  induction h with
  | non n => exact ⟨.none, .non, .non, by simp only [PyData.plain], by simp only [PyData.depth]; omega⟩
  | bl n b => exact ⟨.bool b, .bl b, .bl b, by simp only [PyData.plain], by simp only [PyData.depth]; omega⟩
  | int n i => exact ⟨.int i, .int i, .int i, by simp only [PyData.plain], by simp only [PyData.depth]; omega⟩
  | str n x => exact ⟨.str x, .str x, .str x, by simp only [PyData.plain], by simp only [PyData.depth]; omega⟩
  | lst h1 h2 h3 _ _ ih =>
    obtain ⟨ds, e1, e2, e3, e4⟩ := des_data _ _ h3 ih
    exact ⟨.list ds, .lst h1 e1, .lst h2 e2, by simp only [PyData.plain]; exact e3, by simp only [PyData.depth]; omega⟩
  | tup h3 _ _ ih =>
    obtain ⟨ds, e1, e2, e3, e4⟩ := des_data _ _ h3 ih
    exact ⟨.tuple ds, .tup e1, .tup e2, by simp only [PyData.plain]; exact e3, by simp only [PyData.depth]; omega⟩
theorem o2_eqP {x y : VV} {d e : PyData} (hu : X.A.units + min d.depth e.depth < cLine) (h1 : DW M x d) (h2 : DW M y e) (s1 : d.plain = true) (s2 : e.plain = true) (q : Q (.bl (PyData.eqv d e)) M) : O2 X (compareOp .Eq) x y M Q := fun H v1 v2 m r1 r2 pins s σ u1 u2 I z1 z2 => by
  obtain ⟨as, ra⟩ := Dp.reads I _ _ _ (h1.dp m _ _ _ r1) z1
  obtain ⟨bs, rb⟩ := Dp.reads I _ _ _ (h2.dp m _ _ _ r2) z2
  exact SeqAt.eq_plain ra rb s1 s2 hu ⟨.bl _, H, I, rfl, .mk m (.bl _) q⟩
theorem o2_neP {x y : VV} {d e : PyData} (hu : X.A.units + min d.depth e.depth < cLine) (h1 : DW M x d) (h2 : DW M y e) (s1 : d.plain = true) (s2 : e.plain = true) (q : Q (.bl (!PyData.eqv d e)) M) : O2 X (compareOp .NotEq) x y M Q := fun H v1 v2 m r1 r2 pins s σ u1 u2 I z1 z2 => by
  obtain ⟨as, ra⟩ := Dp.reads I _ _ _ (h1.dp m _ _ _ r1) z1
  obtain ⟨bs, rb⟩ := Dp.reads I _ _ _ (h2.dp m _ _ _ r2) z2
  exact SeqAt.ne_plain ra rb s1 s2 hu ⟨.bl _, H, I, rfl, .mk m (.bl _) q⟩
theorem o2_eqE {n : Nat} {x y : VV} (hu : X.A.units + 64 < cLine) (h : DE M n x y) (hn : n ≤ 60) (q : Q (.bl true) M) : O2 X (compareOp .Eq) x y M Q := by
  obtain ⟨d, d1, d2, d3, d4⟩ := h.data
  exact o2_eqP (by omega) d1 d2 d3 d3 (by rw [SeqAt.eqv_refl_plain d d3]; exact q)
theorem o2_neE {n : Nat} {x y : VV} (hu : X.A.units + 64 < cLine) (h : DE M n x y) (hn : n ≤ 60) (q : Q (.bl false) M) : O2 X (compareOp .NotEq) x y M Q := by
  obtain ⟨d, d1, d2, d3, d4⟩ := h.data
  exact o2_neP (by omega) d1 d2 d3 d3 (by rw [SeqAt.eqv_refl_plain d d3]; exact q)
theorem DE.ints {n : Nat} {u v : VV} {ns : List Int} (hu : Lst M u (ns.map .int)) (hv : Lst M v (ns.map .int)) (hl : ns.length ≤ 100000) : DE M (n + 1) u v := DE.map hu hv hl fun x _ => .int n x
theorem DE.spts {n : Nat} {u v : VV} {row : List Spt} (hu : Lst M u (row.map vsp)) (hv : Lst M v (row.map vsp)) (hl : row.length ≤ 100000) : DE M (n + 3) u v := DE.map hu hv hl fun x _ => .spt x n
/-- [a, b] of lists -/
theorem DE.two {n : Nat} {u v a b c d : VV} (hu : Lst M u [a, b]) (hv : Lst M v [c, d]) (h1 : DE M n a c) (h2 : DE M n b d) : DE M (n + 1) u v := .lst hu hv rfl (by show 2 ≤ 100000; decide) fun j x y e1 e2 => by
  match j with
  | 0 => cases e1; cases e2; exact h1
  | 1 => cases e1; cases e2; exact h2
  | j + 2 => cases e1
end
end G3

set_option Elab.async false
set_option linter.all false
set_option maxRecDepth 100000
set_option maxHeartbeats 4000000
/-! L3: the program's own exceptions, over any built-in base, made by their own __init__ -/
namespace G3
open PySem PySem.Spec L2
/-- a base: what is known of the built-in class -/
structure XBase (B newId initId : String) (bmB : List Value) : Prop where
  fb : ExcBaseFacts B newId initId bmB
  sf : StoreFacts B bmB "object.__setattr__" "object"
theorem xb_value : XBase "ValueError" "ValueError.__new__" "ValueError.__init__" [.type "ValueError", .type "Exception", .type "BaseException", .type "object"] := ⟨F.excBase_ValueError, F.store_ValueError⟩
theorem xb_lookup : XBase "LookupError" "LookupError.__new__" "LookupError.__init__" [.type "LookupError", .type "Exception", .type "BaseException", .type "object"] := ⟨F.excBase_LookupError, F.store_LookupError⟩
theorem xb_index : XBase "IndexError" "IndexError.__new__" "IndexError.__init__" [.type "IndexError", .type "LookupError", .type "Exception", .type "BaseException", .type "object"] := ⟨F.excBase_IndexError, F.store_IndexError⟩
theorem xb_zero : XBase "ZeroDivisionError" "ZeroDivisionError.__new__" "ZeroDivisionError.__init__" [.type "ZeroDivisionError", .type "ArithmeticError", .type "Exception", .type "BaseException", .type "object"] := ⟨F.excBase_ZeroDivisionError, F.store_ZeroDivisionError⟩
/-- the class at C: its own classes first, then the base's -/
def xcls (K : PySem.W.Frag) (C : Addr) (bmB : List Value) (newId : String) : Bool :=
  PySem.W.excInitIn K C bmB newId && PySem.W.excOver K C bmB && ((PySem.W.clsIn K C).any fun cd => cd.hasDict) && decide (PySem.W.findIn K (.ref C) "__setattr__" = some (some (.builtin "object.__setattr__"))) &&
    decide (PySem.W.subIn K (.ref C) (.type "BaseException") = some true) && decide (PySem.W.typeIn K (.ref C) = some (.type "type")) && PySem.W.keepIn K (.ref C)
structure XCls (K : PySem.W.Frag) (C : Addr) : Prop where
  ex : ∃ B newId initId bmB, XBase B newId initId bmB ∧ PySem.W.excInitIn K C bmB newId = true ∧ PySem.W.excOver K C bmB = true
  dct : ∃ cd, PySem.W.clsIn K C = some cd ∧ cd.hasDict = true
  sa : PySem.W.findIn K (.ref C) "__setattr__" = some (some (.builtin "object.__setattr__"))
  exC : PySem.W.subIn K (.ref C) (.type "BaseException") = some true
  tyC : PySem.W.typeIn K (.ref C) = some (.type "type")
  kC : PySem.W.keepIn K (.ref C) = true
theorem xcls_ok {K : PySem.W.Frag} {C : Addr} {B newId initId : String} {bmB : List Value} (X : XBase B newId initId bmB) (h : xcls K C bmB newId = true) : XCls K C := by
  unfold xcls at h
  simp only [Bool.and_eq_true, decide_eq_true_eq] at h
  obtain ⟨⟨⟨⟨⟨⟨h1, h2⟩, h3⟩, h4⟩, h5⟩, h6⟩, h7⟩ := h
  cases q : PySem.W.clsIn K C with
  | none => rw [q] at h3; cases h3
  | some cd => exact ⟨⟨_, _, _, _, X, h1, h2⟩, ⟨cd, q, by rw [q] at h3; exact h3⟩, h4, h5, h6, h7⟩
section
variable {X : Cx} {pins : List (Addr × Obj)} {σ : St} {H : Hp} {s : Shared} {a C dx : Addr} {f : Str} {y : V} {u : Value} {fs : List (Str × V)} {Q : Unit → Shared → Prop} {E : Value → Shared → Prop} {A : Around}
/-- the first field -/
theorem gst_new (T : XCls X.K C) (I : Inv X pins σ H s) (e : H a = some (exo a C none)) (hno : PySem.W.takerIn X.K C f = some none) (ry : RelV y u)
    (h : ∀ dx s', H dx = none → dx ≠ a → Inv X pins σ (upd (upd H dx (exd dx [(f, y)])) a (exo a C (some dx))) s' → Q () s') : wpAny (model X.prog X.w) A (setAttr (.ref a) f u) Q E s := by
  obtain ⟨B, newId, initId, bmB, XB, h1, h2⟩ := T.ex
  obtain ⟨cd, hcl, hdd⟩ := T.dct
  obtain ⟨t1, ho⟩ := exo_at I.hok e
  obtain ⟨hp, gg, dr, tk, os⟩ := s
  refine PySem.W.set_plain I.kIn (od := none) ⟨ho, rfl, rfl, trivial⟩ T.sa ?_
  have KX : X.K.In hp := I.kIn
  refine PySem.W.osa_openX XB.sf (s := ⟨hp, gg, dr, tk + 1, os⟩) KX (od := none) ⟨ho, rfl, rfl, trivial⟩ h2 hno fun b => ?_
  have hlk : PySem.W.Looks (model X.prog X.w) hp (classData C) cd := PySem.W.looks_clsIn KX hcl
  have hax : a ≠ hp.objs.size := Nat.ne_of_lt (Heap.lt_size ho)
  show wpAny _ _ (Builtin.ObjectAttr.storeInOwnDict _ _ _ _ _ _) _ _ _
  obtain ⟨nm, bs, mro, ns, qn, hd, sn, sb, ab, col, del⟩ := cd
  dsimp only at hdd
  subst hdd
  unfold Builtin.ObjectAttr.storeInOwnDict Builtin.ObjectAttr.ownDictForStores
  repeat (first | with_reducible refine PySem.HandSPX.store_in_new ?_ ?_ | with_reducible refine wpAny_loadPart_at ho ?_ | with_reducible refine hlk.at ?_ | wp_step)
  · exact ⟨_, #[], _, (Heap.get?_update_ne _ _ _ _ hax.symm).trans (Heap.get?_push_at rfl rfl), rfl, fun e he => absurd he (by simp), fun _ => rfl⟩
  · intro h' tk' hn' hs
    have hx1 : (hp.push { cls := .type "dict", data := .dict #[] }).get? a = some { cls := .ref C, data := .fields #[.ref t1, .none, .none, .none, .bool false, .none] } := Heap.get?_push_of_some _ ho
    have keep : ∀ c o, c ≠ a → hp.get? c = some o → h'.get? c = some o := fun c o hc hq => (hs.2 c (Nat.ne_of_lt (Heap.lt_size hq))).trans ((Heap.get?_update_ne _ _ _ _ hc).trans (Heap.get?_push_of_some _ hq))
    have hxa : h'.get? a = some { cls := .ref C, dict := some hp.objs.size, data := .fields #[.ref t1, .none, .none, .none, .bool false, .none] } := (hs.2 a hax).trans (Heap.get?_update_self _ hx1 rfl)
    have fresh : H hp.objs.size = none := I.hok.fresh (Nat.le_refl _)
    have old : ∀ {c : Addr} {o : Obj}, hp.get? c = some o → c ≠ hp.objs.size := fun q => Nat.ne_of_lt (Heap.lt_size q)
    have nota : ∀ {c : Addr}, H c = none → c ≠ a := fun {c} n z => by rw [z, e] at n; cases n
    have U : Un X.fs [] H (upd (upd H hp.objs.size (exd hp.objs.size [(f, y)])) a (exo a C (some hp.objs.size))) hp h' :=
      ⟨fun c o q n _ _ => keep c o (nota n) q, fun c o q n _ _ => ⟨o.slots, keep c o (nota n) q⟩, fun c o q n _ => by rw [upd_ne (nota n), upd_ne (old q)]; exact n,
        fun c o q _ => by
          by_cases hc : c = a
          · exact ⟨_, by rw [hc]; exact hxa⟩
          · exact ⟨o, keep c o hc q⟩,
        fun c xs q => by rw [upd_ne (at_ne e q exo_tup), upd_ne (ne_of_none q fresh)]; exact q,
        fun c o v q => by rw [upd_ne (at_ne e q exo_frz), upd_ne (ne_of_none q fresh)]; exact q,
        fun c ps q => ⟨#[], by rw [upd_ne (at_ne e q exo_tbl), upd_ne (ne_of_none q fresh), q]; simp⟩⟩
    refine h hp.objs.size _ fresh hax.symm (I.un (t' := tk') U fun c o q => ?_)
    by_cases hc : c = a
    · subst hc
      rw [upd_same] at q
      cases q
      exact exo_ok hxa
    · rw [upd_ne hc] at q
      by_cases hd2 : c = hp.objs.size
      · subst hd2
        rw [upd_same] at q
        cases q
        exact exd_ok hn' (relO_put (fs := []) ry fun g => True.intro)
      · rw [upd_ne hd2] at q
        refine (I.hok c o q).stay (fun b v hb z => keep b v (fun w => ?_) z) (fun b hb => by rw [upd_ne (at_ne e hb exo_own), upd_ne (ne_of_none hb fresh)]; exact hb) (fun b xs hb => by rw [upd_ne (at_ne e hb exo_tup), upd_ne (ne_of_none hb fresh)]; exact hb)
        rcases hb with hb | hb
        · exact hc (hb.symm.trans w)
        · exact at_ne e hb exo_own w
/-- a further field -/
theorem gst_old (T : XCls X.K C) (I : Inv X pins σ H s) (e : H a = some (exo a C (some dx))) (ed : H dx = some (exd dx fs)) (hl : fs.length ≤ 900) (hno : PySem.W.takerIn X.K C f = some none) (ry : RelV y u)
    (h : ∀ s', Inv X pins σ (upd H dx (exd dx ((f, y) :: fs))) s' → Q () s') : wpAny (model X.prog X.w) A (setAttr (.ref a) f u) Q E s := by
  obtain ⟨B, newId, initId, bmB, XB, h1, h2⟩ := T.ex
  obtain ⟨cd, hcl, hdd⟩ := T.dct
  obtain ⟨t1, ho⟩ := exo_at I.hok e
  obtain ⟨mA, hns, rel⟩ := exd_at I.hok ed
  have hw := within_of rel
  obtain ⟨hp, gg, dr, tk, os⟩ := s
  obtain ⟨oD, _, _, hoD, _, _⟩ := hns.count hw
  refine PySem.W.set_plain I.kIn (od := some oD) ⟨ho, rfl, rfl, hoD⟩ T.sa ?_
  have KX : X.K.In hp := I.kIn
  refine PySem.W.osa_openX XB.sf (s := ⟨hp, gg, dr, tk + 1, os⟩) KX (od := some oD) ⟨ho, rfl, rfl, hoD⟩ h2 hno fun b => ?_
  have hlk : PySem.W.Looks (model X.prog X.w) hp (classData C) cd := PySem.W.looks_clsIn KX hcl
  show wpAny _ _ (Builtin.ObjectAttr.storeInOwnDict _ _ _ _ _ _) _ _ _
  obtain ⟨nm, bs, mro, ns, qn, hd, sn, sb, ab, col, del⟩ := cd
  dsimp only at hdd
  subst hdd
  unfold Builtin.ObjectAttr.storeInOwnDict Builtin.ObjectAttr.ownDictForStores
  repeat (first | with_reducible refine PySem.OEX.store_in_old hns hw (by rw [List.length_map]; omega) ?_ | with_reducible refine wpAny_loadPart_at ho ?_ | with_reducible refine hlk.at ?_ | wp_step)
  intro h' tk' hn' hs
  have hd : ∃ o, h'.get? dx = some o := by
    obtain ⟨o, _, _, e', _⟩ := hn'
    exact ⟨o, e'⟩
  exact h _ (I.write (t' := tk') (x := dx) (e := dx) (o := exd dx ((f, y) :: fs)) (by rw [ed]; exact True.intro) (.inl rfl) (fun b o hb ho => (hs.2 b hb).trans ho) hd (exd_ok hn' (relO_put ry rel)))
end
/-! ### C(..) -/
section
variable {X : Cx} {o e : Expr} {es : List Expr} {to te : TE} {ta : TA} {f : Str} {p p' pos : Pos}
/-- self.f = e, while the exception is being made -/
def tGst (K : PySem.W.Frag) (f : Str) (to te : TE) : TS := fun D σ H => te σ H fun y H1 => to σ H1 fun x H2 => ∃ a C : Addr, x = .ref a ∧ XCls K C ∧ PySem.W.takerIn K C f = some none ∧
  ((H2 a = some (exo a C none) ∧ ∀ dx, H2 dx = none → dx ≠ a → D.nx σ (upd (upd H2 dx (exd dx [(f, y)])) a (exo a C (some dx)))) ∨
    ∃ (dx : Addr) (fs : List (Str × V)), H2 a = some (exo a C (some dx)) ∧ H2 dx = some (exd dx fs) ∧ fs.length ≤ 900 ∧ D.nx σ (upd H2 dx (exd dx ((f, y) :: fs))))
theorem ps_gst (ho : PE X o to) (he : PE X e te) (hs : swapsWith e (some (.Attribute o f p')) pos.line X.env = pure false := by rfl) : PS X (.Assign [.Attribute o f p'] e pos) (tGst X.K f to te) := by
  refine ⟨fun pins s σ H D I h => ?_⟩
  refine plainObj_wpAny_Assign_Attribute (thn (he.run pins s σ H _ I h) fun v s1 z => ?_) hs
  obtain ⟨y, H1, I1, r1, q1⟩ := z
  refine thn (ho.run pins s1 σ H1 _ I1 q1) fun u s2 z => ?_
  obtain ⟨x, H2, I2, r2, a, C, ex, T, hno, q⟩ := z
  subst ex
  have eu : u = Value.ref a := r2
  subst eu
  rcases q with ⟨ea, q⟩ | ⟨dx, fs, ea, ed, hl, q⟩
  · exact gst_new T I2 ea hno r1 fun dx s' n ne J => ⟨σ, _, J, q dx n ne⟩
  · exact gst_old T I2 ea ed hl hno r1 fun s' J => ⟨σ, _, J, q⟩
/-- the wish of the made exception -/
def tMkG (C : Addr) (sp : Sp) (ta : TA) : St → Hp → XK → Prop := fun σ H Q => ta σ H fun vs H1 => vs.length ≤ 1000 ∧ ∀ a, H1 a = none → sp (.ref a :: vs) (upd H1 a (exo a C none))
  (fun v H2 => v = .non ∧ ∃ (d : Addr) (fs : List (Str × V)), H2 a = some (exo a C (some d)) ∧ H2 d = some (exd d fs) ∧ H1 d = none ∧ Q (.ref C) (some d) (upd (del H2 a) d (.xd fs))) (fun _ _ _ => False)
theorem mk_run {pins : List (Addr × Obj)} {σ : St} {H1 : Hp} {s1 : Shared} {us : List Value} {vs : List V} {Q : XK} {CX : CXT} {C fI : Addr} {k : Nat} {fd : FuncData} {ps : List Str} {sp : Sp} (T : XCls X.K C) (iC : PySem.W.findIn X.K (.ref C) "__init__" = some (some (.ref fI))) (tI : PySem.W.typeIn X.K (.ref fI) = some (.type "function"))
    (F1 : FnOk X.prog X.w X.K X.mg X.base CX k fI fd ps sp) (hr : Room (k + 1) X.A) (hb : Binds X.K fd ps []) (hx : Passes CX X (fun _ _ _ => False)) (I1 : Inv X pins σ H1 s1) (r1 : Vals vs us) (hz : vs.length ≤ 1000)
    (q1 : ∀ a, H1 a = none → sp (.ref a :: vs) (upd H1 a (exo a C none)) (fun v H2 => v = .non ∧ ∃ (d : Addr) (fs : List (Str × V)), H2 a = some (exo a C (some d)) ∧ H2 d = some (exd d fs) ∧ H1 d = none ∧ Q (.ref C) (some d) (upd (del H2 a) d (.xd fs))) (fun _ _ _ => False)) :
    wpAny (model X.prog X.w) X.A (call (.ref C) us) (MkP X pins σ Q) X.xe s1 := by
  obtain ⟨B, newId, initId, bmB, XB, h1, h2⟩ := T.ex
  obtain ⟨hp, gg, dr, tk, os⟩ := s1
  have KX : X.K.In hp := I1.kIn
  obtain ⟨nm, N, qn, bs, bm, hdct, sn, sub, ab, col, dd, k0, k1, k2, k3, k5, hC, hbm⟩ := PySem.W.excInit_of KX h1
  have hsz : hp.objs.size ≤ hp.objs.size + 1 := Nat.le_succ _
  have hn : H1 (hp.objs.size + 1) = none := I1.hok.fresh hsz
  have hq := q1 (hp.objs.size + 1) hn
  have kk : ∀ b o, hp.get? b = some o → ((hp.push (PySem.W.kdv_tup us)).push (PySem.HandSPX.excO C hp.objs.size)).get? b = some o := fun b o e => Heap.get?_push_of_some _ (Heap.get?_push_of_some _ e)
  have hget : ((hp.push (PySem.W.kdv_tup us)).push (PySem.HandSPX.excO C hp.objs.size)).get? (hp.objs.size + 1) = some (PySem.HandSPX.excO C hp.objs.size) := by heap_get
  have I2 := I1.laid (t' := tk) (a := hp.objs.size + 1) (o := exo (hp.objs.size + 1) C none) (h' := (hp.push (PySem.W.kdv_tup us)).push (PySem.HandSPX.excO C hp.objs.size)) kk hsz (exo_ok hget)
  have r2 : Vals (V.ref (hp.objs.size + 1) :: vs) (Value.ref (hp.objs.size + 1) :: us) := .cons rfl r1
  have hl : (Value.ref (hp.objs.size + 1) :: us).length = ps.length := by
    have e := r2.length
    rw [F1.len _ _ _ _ hq] at e
    exact e.symm
  have hus : us.length ≤ sizeLine := by
    rw [← Paired.length r1, sizeLine_eq]
    omega
  have hbd := hb _ (Value.ref (hp.objs.size + 1) :: us) I2.kIn (by rw [List.append_nil]; exact hl)
  rw [List.append_nil] at hbd
  refine wpAny_call (PySem.HandSPX.call_own XB.fb hbm hC (PySem.W.looks_findIn KX iC) (fun self => PySem.W.bind_fn KX self tI) hus
    (codeAny_mono (F1.run _ X.stack _ _ ⟨Value.ref (hp.objs.size + 1) :: us, []⟩ (Value.ref (hp.objs.size + 1) :: us) _ _ (fun _ _ _ => False) (hr.make C us []) (I2.env0.make C us []) hbd r2 hq) fun r s' hq' => ?_))
  cases r with
  | error er => exact hx pins σ _ _ er s' I2 hq'
  | ok fl =>
    cases fl with
    | ret u =>
      obtain ⟨v, H2, os2, bare2, un2, hok2, rv, ev, d, fs, ea, ed, hd1, q2⟩ := hq'
      subst ev
      obtain ⟨h2', g2, d2, t2, os'⟩ := s'
      exact ⟨rv, mk_end (raises_own T.exC T.tyC) I1 hsz kk un2 hok2 os2 bare2 ea ed hd1 q2⟩
    | next => exact False.elim hq'
    | brk => exact False.elim hq'
    | cont => exact False.elim hq'
theorem pmk_g {CX : CXT} {x : Str} {C fI : Addr} {k : Nat} {fd : FuncData} {ps : List Str} {sp : Sp} (T : XCls X.K C) (iC : PySem.W.findIn X.K (.ref C) "__init__" = some (some (.ref fI))) (tI : PySem.W.typeIn X.K (.ref fI) = some (.type "function"))
    (F1 : FnOk X.prog X.w X.K X.mg X.base CX k fI fd ps sp) (hr : Room (k + 1) X.A) (hb : Binds X.K fd ps []) (hx : Passes CX X (fun _ _ _ => False)) (hg : Gl X x) (hm : X.mg x = some (.ref C)) (ha : PA X (e :: es) ta)
    (hdb : (x == ("__debug__" : Str)) = false := by decide) (he : starEach (e :: es) X.env = (false, eval e X.env) :: starEach es X.env := by rfl) (hpl : (backTo pos (starEach es X.env)).any (·.1) = false := by rfl) :
    PMk X (.Call (.Name x p) (e :: es) [] pos) (tMkG C sp ta) := by
  intro pins s σ H Q I h
  refine wpAny_Call_Name_kw (ld_glob I hg hm ?_ hdb)
  refine PySem.W.callWith_K (h₀ := X.base) I.ok.mod.kin T.kC (thn (ha.run pos pins s σ H _ I h) fun us s1 z => ?_) he hpl
  obtain ⟨vs, H1, I1, r1, hz, q1⟩ := z
  exact ⟨I1.kIn, mk_run T iC tI F1 hr hb hx I1 r1 hz q1⟩
theorem pmk_g0 {CX : CXT} {x : Str} {C fI : Addr} {k : Nat} {fd : FuncData} {ps : List Str} {sp : Sp} (T : XCls X.K C) (iC : PySem.W.findIn X.K (.ref C) "__init__" = some (some (.ref fI))) (tI : PySem.W.typeIn X.K (.ref fI) = some (.type "function"))
    (F1 : FnOk X.prog X.w X.K X.mg X.base CX k fI fd ps sp) (hr : Room (k + 1) X.A) (hb : Binds X.K fd ps []) (hx : Passes CX X (fun _ _ _ => False)) (hg : Gl X x) (hm : X.mg x = some (.ref C)) (hdb : (x == ("__debug__" : Str)) = false := by decide) :
    PMk X (.Call (.Name x p) [] [] pos) (tMkG C sp tNil) := by
  intro pins s σ H Q I h
  refine wpAny_Call_Name_kw (ld_glob I hg hm ?_ hdb)
  exact PySem.W.callWith_K0 I.kIn T.kC (mk_run (us := []) (vs := []) T iC tI F1 hr hb hx I .nil (by decide) h.2)
end
end G3

set_option Elab.async false
set_option linter.all false
set_option maxRecDepth 100000
set_option maxHeartbeats 4000000
/-! L3: exceptions: promises, raise, calls that may raise, try, what is caught -/
namespace G3
open PySem PySem.Spec L2
theorem TM.of_inv {X : Cx} {pins : List (Addr × Obj)} {σ : St} {H : Hp} {s : Shared} (I : Inv X pins σ H s) : TM X.H_0 H := ⟨I.base.tups, fun b o u _ h => I.base.frzs b o u h⟩
abbrev XQ := Value → Option Addr → Mp → Prop
abbrev XQ3 := Value → Option Addr → St3 → Mp → Prop
abbrev SpX := List VV → Mp → VQ → XQ → Prop
/-- a promise with what may be raised -/
def toSpX (K : PySem.W.Frag) (sp : SpX) : Sp := fun vs H Q E => ∃ ws M Q3 R, SimM K M H ∧ Rvs K H vs ws ∧ sp ws M Q3 R ∧ (∀ u M' v H', Q3 u M' → TM H H' → SimM K M' H' → Rv K H' v u → Q v H') ∧ ∀ cls d M' H', R cls d M' → TM H H' → SimM K M' H' → E cls d H'
def noX : XQ := fun _ _ _ => False
/-- what the context wants of an exception -/
def Tk (X : Cx) (R : XQ3) : Prop := ∃ W : WX, Takes X W ∧ ∀ cls d σ' σ H' M', TM X.H_0 H' → Slots X.K H' σ' σ → SimM X.K M' H' → R cls d σ M' → W cls d σ' H'
theorem Tk.imp {X : Cx} {R R' : XQ3} (t : Tk X R) (h : ∀ cls d σ M, R' cls d σ M → R cls d σ M) : Tk X R' :=
  let ⟨W, a, b⟩ := t; ⟨W, a, fun cls d σ' σ H' M' t s m r => b cls d σ' σ H' M' t s m (h _ _ _ _ r)⟩
structure Stk (X : Cx) : Prop where
  st : X.stack = X.env :: X.outer
  fr : X.env.frame = some X.env.locals
def Ev.xc (E : Ev) : Prop := E.CX = L2.CX E.P E.w
def Ev.dfx (E : Ev) (k : Nat) (x : Str) (ps : List Str) (sp : SpX) : Prop := ∃ f fd, E.mg x = some (.ref f) ∧ PySem.W.keepIn E.K (.ref f) = true ∧ (∀ (s : Shared) (us : List Value), us.length = ps.length → BindsTo s fd ⟨us, []⟩ (ps.zip us)) ∧ FnOk E.P E.w E.K E.mg E.base E.CX k f fd ps (toSpX E.K sp) ∧ ∃ oc od osl, E.K.lookup f = some ⟨oc, od, .func fd, osl⟩
section
variable {E : Ev} {x : Str} {ps : List Str}
/-- where nothing is raised -/
theorem dfx_df {k : Nat} {sp : SpX} {sp' : Sp3} (D : E.dfx k x ps sp) (h : ∀ ws M Q, sp' ws M Q → sp ws M Q noX) : E.df k x ps sp' := by
  obtain ⟨f, fd, h1, h2, h3, h4, h5⟩ := D
  exact ⟨f, fd, h1, h2, h3, h4.imp fun vs H Q Ex ⟨ws, M, Q3, a, b, c, d⟩ => ⟨ws, M, Q3, noX, a, b, h _ _ _ c, d, fun _ _ _ _ z => z.elim⟩, h5⟩
theorem df_dfx {k : Nat} {sp : Sp3} (D : E.df k x ps sp) : E.dfx k x ps (fun ws M Q _ => sp ws M Q) := by
  obtain ⟨f, fd, h1, h2, h3, h4, h5⟩ := D
  exact ⟨f, fd, h1, h2, h3, h4.imp fun vs H Q Ex ⟨ws, M, Q3, R, a, b, c, d, _⟩ => ⟨ws, M, Q3, a, b, c, d⟩, h5⟩
theorem dfx_imp {k : Nat} {sp sp' : SpX} (D : E.dfx k x ps sp) (h : ∀ ws M Q R, sp' ws M Q R → sp ws M Q R) : E.dfx k x ps sp' := by
  obtain ⟨f, fd, h1, h2, h3, h4, h5⟩ := D
  exact ⟨f, fd, h1, h2, h3, h4.imp fun vs H Q Ex ⟨ws, M, Q3, R, a, b, c, d⟩ => ⟨ws, M, Q3, R, a, b, h _ _ _ _ c, d⟩, h5⟩
theorem fnx_of {qual : Str} {args : Arguments} {sts : List Stmt} {sc : Scope} {name : Str} {dvs : List V} {kws : List (Str × V)} {f : Addr} {fd : FuncData} (hX : E.xc) (F : FunD E.K name qual args sts sc dvs kws f fd) (N : List Str) {k : Nat} {sp : SpX} (S : FnScope N ps sc) (len : ∀ ws M Q R, sp ws M Q R → ws.length = ps.length)
    (body : ∀ X : Cx, E.bd N sc true k X → Stk X → ∀ ws M Q R, sp ws M Q R → Tk X (fun cls d _ M' => ∃ M0, LeM M0 M' ∧ R cls d M0) → WSs X sts (ws.map some ++ List.replicate (N.length - ws.length) none) M
      { nx := fun _ M' => ∃ M0, LeM M0 M' ∧ Q .non M0, rt := fun u M' => ∃ M0, LeM M0 M' ∧ Q u M0 }) : FnOk E.P E.w E.K E.mg E.base E.CX (k + 1) f fd ps (toSpX E.K sp) := by
  obtain ⟨P, w, K, mg, base, CX, hp⟩ := E
  have hX' : CX = L2.CX P w := hX
  subst hX'
  obtain ⟨oc, od, dV, kV, doc, pm, an, cdv, ct, osl, rfl, lk, hcd, _, _⟩ := F.ex
  refine fn_of lk hcd S (fun vs H Q Ex ⟨ws, M, Q3, R, _, r, h, _⟩ => by rw [r.length]; exact len ws M Q3 R h) fun A outer s H vs Q Ex hr ⟨ws, M, Q3, R, m, r, h, hq, hx⟩ => ?_
  have B : Bd P w K mg base (L2.CX P w) N sc true k (cxOf (L2.CX P w) P w K mg base N qual sc f cdv A outer s H Ex) :=
    ⟨rfl, rfl, rfl, rfl, rfl, rfl, rfl, rfl, hr, hp, passes_of rfl, S.nd, fun _ _ => rfl⟩
  have b := body _ B ⟨rfl, rfl⟩ ws M Q3 R h ⟨fun cls d _ H' => Ex cls d H', takes_of rfl rfl rfl rfl, fun cls d σ' σ H' M' t s m ⟨M0, l, q⟩ => hx cls d M0 H' q t (m.sub l)⟩ (L2.start N vs) H (Slots.start r N) m
  refine ⟨wSs _ sts, wSs.pss, b.mono ?_ ?_ ?_ ?_⟩
  · rintro σ' H' ⟨_, M', t, _, m', M0, l, q⟩
    exact hq _ _ _ _ q t (m'.sub l) .non
  · rintro v H' ⟨u, M', t, m', rv, M0, l, q⟩
    exact hq _ _ _ _ q t (m'.sub l) rv
  · rintro σ' H' ⟨_, _, _, _, _, q⟩; exact q.elim
  · rintro σ' H' ⟨_, _, _, _, _, q⟩; exact q.elim
theorem Tx.dfx (hX : E.xc) {st : Stmt} (T : Tx E x st ps) (N : List Str) {k : Nat} {sp : SpX} (S : FnScope N ps (defScope st)) (len : ∀ ws M Q R, sp ws M Q R → ws.length = ps.length)
    (body : ∀ X : Cx, E.bd N (defScope st) true k X → Stk X → ∀ ws M Q R, sp ws M Q R → Tk X (fun cls d _ M' => ∃ M0, LeM M0 M' ∧ R cls d M0) → WSs X (defBody st) (ws.map some ++ List.replicate (N.length - ws.length) none) M
      { nx := fun _ M' => ∃ M0, LeM M0 M' ∧ Q .non M0, rt := fun u M' => ∃ M0, LeM M0 M' ∧ Q u M0 }) : E.dfx (k + 1) x ps sp := by
  obtain ⟨f, fd, F, hm, bi⟩ := T
  have F' := fnx_of hX F N S len body
  obtain ⟨oc, od, dV, kV, doc, pm, an, cdv, ct, osl, rfl, lk, hcd, _, _⟩ := F.ex
  exact ⟨f, _, hm, F.kp, bi, F', oc, od, osl, lk⟩
end
/-! ### making and raising -/
section
variable {X : Cx} {a b c e o tg : Expr} {es : List Expr} {σ : St3} {M : Mp} {Q : VQ} {D : En} {pos : Pos} {x : Str} {i : Nat} {R : XQ3}
variable {P : Program} {w : World} {K : PySem.W.Frag} {mg : Str → Option Value} {base : Heap} {CX : CXT} {N : List Str} {sc : Scope} {fl : Bool} {k : Nat}
def wMk (X : Cx) (e : Expr) : St → Hp → XK → Prop := fun σ H Q => ∀ pins s, Inv X pins σ H s → wpAny (model X.prog X.w) X.A (eval e X.env) (MkP X pins σ Q) X.xe s
def WMk (X : Cx) (e : Expr) (σ : St3) (M : Mp) (Q : XQ) : Prop := ∀ σ' H, Slots X.K H σ' σ → SimM X.K M H → wMk X e σ' H fun cls d H' => ∃ M', TM H H' ∧ SimM X.K M' H' ∧ Q cls d M'
theorem MkP.mono {pins : List (Addr × Obj)} {σ : St} {Q Q' : XK} {u : Value} {s' : Shared} (h : MkP X pins σ Q u s') (k : ∀ c d H, Q c d H → Q' c d H) : MkP X pins σ Q' u s' := by
  obtain ⟨a, oe, vs, sI, H', cls, d, h1, h2, h3, h4, h5, h6, h7, h8, h9, h10, h11, h12, q⟩ := h
  exact ⟨a, oe, vs, sI, H', cls, d, h1, h2, h3, h4, h5, h6, h7, h8, h9, h10, h11, h12, k _ _ _ q⟩
theorem ws_raise (B : Bd P w K mg base CX N sc fl k X) (tk : Tk X R) (h : WMk X e σ M fun cls d M' => R cls d σ M') : WS X (.Raise (some e) none pos) σ M D := fun σ' H s m pins st I => by
  obtain ⟨W, tW, hW⟩ := tk
  have t0 := TM.of_inv I
  refine (ps_raise (W := W) (t := wMk X e) B.calm tW (fun pins s σ H Q I h => h pins s I)).run pins st σ' H _ I ?_
  intro pins' s' I'
  exact thn (h σ' H s m pins' s' I') fun u s1 hu => MkP.mono hu fun cls d H' ⟨M', t, m', q⟩ => hW cls d σ' σ H' M' (t0.trans t) (s.mono t) m' q
theorem we_callX {k' : Nat} {ps : List Str} {sp : SpX} {p : Pos} {E : Ev} (hX : E.xc) (B : E.bd N sc fl k X) (F : E.dfx k' x ps sp) (hk : k' ≤ k) (hg : sc.names.lookup x = some .globalImplicit) (tk : Tk X R)
    (h : WA X (e :: es) σ M fun ws M1 => sp ws M1 Q (fun cls d M' => R cls d σ M')) (hdb : (x == ("__debug__" : Str)) = false := by decide) (he : starEach (e :: es) X.env = (false, eval e X.env) :: starEach es X.env := by rfl) (hpl : (backTo pos (starEach es X.env)).any (·.1) = false := by rfl) :
    WE X (.Call (.Name x p) (e :: es) [] pos) σ M Q := by
  obtain ⟨P, w, K, mg, base, CX, hp⟩ := E
  have hX' : CX = L2.CX P w := hX
  subst hX'
  obtain ⟨f, fd, hmg, hkp, hb0, hf, _⟩ := F
  obtain ⟨rfl, rfl, rfl, rfl, rfl, rfl, rfl, _, room, pas, _⟩ := B
  have hb : Binds X.K fd ps [] := fun s us _ hl => by rw [List.append_nil] at hl ⊢; exact hb0 s us hl
  obtain ⟨W, tW, hW⟩ := tk
  intro σ' H s m pins st I
  have t0 := TM.of_inv I
  refine (pe_callS (E := fun σ cls d H => W cls d σ H) hf (room.mono hk) hg hmg hkp hb (passAt tW) wA.pa hdb he hpl).run pins st σ' H _ I ?_
  exact h.run s m fun vs H1 ws M1 t1 m1 r1 s1 q1 => ⟨ws, M1, Q, _, m1, r1, q1, fun u M' v H' q t2 m2 r2 => ⟨u, M', t1.trans t2, m2, r2, q⟩, fun cls d M' H' q t2 m2 => hW cls d σ' σ H' M' (t0.trans (t1.trans t2)) (s1.mono t2) m2 q⟩
theorem exo_mut {H : Hp} {p a C : Addr} {d : Option Addr} {ho : HO} (h : H p = some (exo a C d)) : TM H (upd H p ho) := TM.mut h (fun xs => exo_tup) (fun o w => exo_frz)
theorem exd_frz {e : Addr} {fs : List (Str × V)} {o : Obj} {u : HO} : exd e fs ≠ .frz o u := fun z => by unfold exd at z; cases z
theorem exd_mut {H : Hp} {p a : Addr} {fs : List (Str × V)} {ho : HO} (h : H p = some (exd a fs)) : TM H (upd H p ho) := TM.mut h (fun xs => exd_tup) (fun o w => exd_frz)
/-- self.f = e, while the exception is being made -/
theorem ws_gst {f : Str} {p' : Pos} (h : WE X e σ M fun y M1 => WE X o σ M1 fun u M2 => ∃ a C Hf, u = .ref a ∧ XCls X.K C ∧ PySem.W.takerIn X.K C f = some none ∧
      ((M2 a = some (.xo C none Hf) ∧ ∀ dx, M2 dx = none → dx ≠ a → Hf dx = none → D.nx σ (updM (updM M2 dx (.xf [(f, y)])) a (.xo C (some dx) Hf))) ∨
        ∃ dx fs, M2 a = some (.xo C (some dx) Hf) ∧ M2 dx = some (.xf fs) ∧ fs.length ≤ 900 ∧ D.nx σ (updM M2 dx (.xf ((f, y) :: fs)))))
    (hs : swapsWith e (some (.Attribute o f p')) pos.line X.env = pure false := by rfl) : WS X (.Assign [.Attribute o f p'] e pos) σ M D := fun σ' H s m =>
  wS.of (ps_gst wE.pe wE.pe hs) (h.run s m fun y H1 y' M1 t1 m1 r1 s1 q1 => q1.run s1 m1 fun u H2 u' M2 t2 m2 r2 s2 q2 => by
    obtain ⟨a, C, Hf, rfl, T, hno, q2⟩ := q2
    cases r2
    refine ⟨a, C, rfl, T, hno, ?_⟩
    rcases q2 with ⟨ma, q⟩ | ⟨dx, fs, ma, md, hl, q⟩
    · have ea : H2 a = some (exo a C none) ∧ ∀ b, Hf b ≠ none → H2 b ≠ none := m2 a _ ma
      refine .inl ⟨ea.1, fun dx hd hne => ?_⟩
      have td : TM H2 (upd H2 dx (exd dx [(f, y)])) := TM.fresh hd
      have md := m2.put (p := dx) (o := .xf [(f, y')]) (ho := exd dx [(f, y)]) td (.inl hd) (by intro z; cases z) ⟨_, upd_same, .cons (Rv.mono (t2.trans td) _ _ r1) .nil⟩
      have ea2 : upd H2 dx (exd dx [(f, y)]) a = some (exo a C none) := by rw [upd_ne hne.symm]; exact ea.1
      have ta := exo_mut (ho := exo a C (some dx)) ea2
      refine ⟨σ, _, ((t1.trans t2).trans td).trans ta, (s2.mono td).mono ta, md.put (p := a) (o := .xo C (some dx) Hf) ta (.inr ⟨_, by rw [updM_ne hne.symm]; exact ma⟩) (by intro z; cases z) ⟨upd_same, fun b hb => upd_nn (upd_nn (ea.2 b hb))⟩, q dx (m2.no hd) hne ?_⟩
      cases z : Hf dx with
      | none => rfl
      | some v => exact absurd hd (ea.2 dx (by rw [z]; intro z; cases z))
    · have ea : H2 a = some (exo a C (some dx)) ∧ ∀ b, Hf b ≠ none → H2 b ≠ none := m2 a _ ma
      obtain ⟨gs, ed, rg⟩ := m2 dx _ md
      have td := exd_mut (ho := exd dx ((f, y) :: gs)) ed
      have lg : gs.length = fs.length := by
        have := rg.split.1
        have := congrArg List.length this
        simpa using this
      exact .inr ⟨dx, gs, ea.1, ed, by rw [lg]; exact hl, σ, _, (t1.trans t2).trans td, s2.mono td, m2.put (p := dx) (o := .xf ((f, y') :: fs)) td (.inr ⟨_, md⟩) (by intro z; cases z) ⟨_, upd_same, .cons (Rv.mono (t2.trans td) _ _ r1) (rg.mono td)⟩, q⟩)
/-- behind the making: the exception's own object is let go, its dict is a plain one -/
theorem sim_made {H1 H2 : Hp} {M1 : Mp} {a C dx : Addr} {fs : List (Str × VV)} {gs : List (Str × V)} (m1 : SimM K M1 H1) (ha : H1 a = none) (m2 : SimM K (updM (updM (updM M1 a (.xo C none H1)) dx (.xf fs)) a (.xo C (some dx) H1)) H2) (hne : dx ≠ a) (hd : M1 dx = none)
    (ea : H2 a = some (exo a C (some dx))) (ed : H2 dx = some (exd dx gs)) (rg : Rkv K H2 gs fs) : TM H2 (upd (del H2 a) dx (.xd gs)) ∧ SimM K (updM M1 dx (.xd fs)) (upd (del H2 a) dx (.xd gs)) := by
  have t : TM H2 (upd (del H2 a) dx (.xd gs)) := by
    refine ⟨fun b xs q => ?_, fun b o u _ q => ?_⟩
    · have n1 : b ≠ dx := fun z => by subst z; rw [ed] at q; exact exd_tup (Option.some.inj q)
      have n2 : b ≠ a := fun z => by subst z; rw [ea] at q; exact exo_tup (Option.some.inj q)
      rw [upd_ne n1, del_ne n2]; exact q
    · have n1 : b ≠ dx := fun z => by subst z; rw [ed] at q; exact exd_frz (Option.some.inj q)
      have n2 : b ≠ a := fun z => by subst z; rw [ea] at q; exact exo_frz (Option.some.inj q)
      rw [upd_ne n1, del_ne n2]; exact q
  refine ⟨t, fun b o q => ?_⟩
  by_cases hb : b = dx
  · subst hb
    rw [updM_same] at q
    cases q
    exact ⟨gs, upd_same, rg.mono t⟩
  · rw [updM_ne hb] at q
    have na : b ≠ a := fun z => by subst z; rw [m1.no ha] at q; cases q
    have q' : updM (updM (updM M1 a (.xo C none H1)) dx (.xf fs)) a (.xo C (some dx) H1) b = some o := by rw [updM_ne na, updM_ne hb, updM_ne na]; exact q
    have r := m2 b o q'
    have e : ∀ u, H2 b = some u → upd (del H2 a) dx (.xd gs) b = some u := fun u z => by rw [upd_ne hb, del_ne na]; exact z
    cases o with
    | lst ws => obtain ⟨vs, h1, h2⟩ := r; exact ⟨vs, e _ h1, Rvs.mono t _ _ h2⟩
    | dK ws => obtain ⟨vs, h1, h2⟩ := r; exact ⟨vs, e _ h1, h2.mono t⟩
    | dT ws => obtain ⟨vs, h1, h2⟩ := r; exact ⟨vs, e _ h1, h2.mono t⟩
    | ins C ws => obtain ⟨dx, vs, h1, h2⟩ := r; exact ⟨dx, vs, e _ h1, h2.mono t⟩
    | xd ws => obtain ⟨vs, h1, h2⟩ := r; exact ⟨vs, e _ h1, h2.mono t⟩
    | xf ws => obtain ⟨vs, h1, h2⟩ := r; exact ⟨vs, e _ h1, h2.mono t⟩
    | fix u => exact e _ r
    | lk o xs ws => exact ⟨e _ r.1, r.2.mono t⟩
    | lkT o xs ws => exact ⟨e _ r.1, r.2.mono t⟩
    | xo C' d' Hf =>
      have r1 : H1 b = some (exo b C' d') ∧ ∀ c, Hf c ≠ none → H1 c ≠ none := m1 b _ q
      refine ⟨e _ r.1, fun c hc => ?_⟩
      have h2 := r.2 c hc
      have nc : c ≠ a := fun z => by subst z; exact r1.2 c hc ha
      by_cases hcd : c = dx
      · subst hcd; rw [upd_same]; intro z; cases z
      · rw [upd_ne hcd, del_ne nc]; exact h2
    | tab q2 =>
      obtain ⟨ps, h1, h2, h3⟩ := r
      refine ⟨ps, e _ h1, h2, fun pos cv hc => ?_⟩
      obtain ⟨c, e1, e2, e3⟩ := h3 pos cv hc
      have nc : c ≠ a := fun z => by subst z; rw [updM_same] at e3; cases e3
      have nd : c ≠ dx := fun z => by subst z; rw [updM_ne hne, updM_same] at e3; cases e3
      refine ⟨c, e1, by rw [upd_ne nd, del_ne nc]; exact e2, ?_⟩
      rw [updM_ne nc, updM_ne nd, updM_ne nc] at e3
      rw [updM_ne nd]; exact e3
    | bag =>
      obtain ⟨⟨c, i1, i2, i3, i4, cs, h1, h2, h3, h4⟩, hu⟩ := r
      have nc : c ≠ a := fun z => by subst z; rw [updM_same] at h3; cases h3
      have nd : c ≠ dx := fun z => by subst z; rw [updM_ne hne, updM_same] at h3; cases h3
      refine ⟨⟨c, i1, i2, i3, i4, cs, e _ h1, by rw [upd_ne nd, del_ne nc]; exact h2, ?_, h4⟩, fun b' hb' => ?_⟩
      · rw [updM_ne nc, updM_ne nd, updM_ne nc] at h3
        rw [updM_ne nd]; exact h3
      · by_cases h' : b' = dx
        · subst h'; rw [updM_same] at hb'; cases hb'
        · rw [updM_ne h'] at hb'
          have n' : b' ≠ a := fun z => by subst z; rw [m1.no ha] at hb'; cases hb'
          exact hu b' (by rw [updM_ne n', updM_ne h', updM_ne n']; exact hb')
/-- the own __init__ of an exception's class: its fields by its arguments -/
def spInit (C : Addr) (n : Nat) (fd : List VV → List (Str × VV)) : Sp3 := fun ws M Q => ∃ (a : Addr) (us : List VV) (Hf : Hp), ws = .ref a :: us ∧ us.length = n ∧ M a = some (.xo C none Hf) ∧ ∀ dx, M dx = none → dx ≠ a → Hf dx = none → Q .non (updM (updM M dx (.xf (fd us))) a (.xo C (some dx) Hf))
/-- an own exception class at C -/
def Ev.exc (E : Ev) (k : Nat) (x : Str) (n : Nat) (flds : List VV → List (Str × VV)) : Prop := ∃ fI fd ps, XCls E.K (He.ga E.K x) ∧ PySem.W.findIn E.K (.ref (He.ga E.K x)) "__init__" = some (some (.ref fI)) ∧ PySem.W.typeIn E.K (.ref fI) = some (.type "function") ∧
  FnOk E.P E.w E.K E.mg E.base E.CX k fI fd ps (toSp E.K (spInit (He.ga E.K x) n flds)) ∧ Binds E.K fd ps [] ∧ E.mg x = some (.ref (He.ga E.K x))
theorem mk_post {X : Cx} {H1 : Hp} {M1 : Mp} {n : Nat} {flds : List VV → List (Str × VV)} {C : Addr} {us : List VV} {vs : List V} {Q : XQ} {Qv : XK} (m1 : SimM X.K M1 H1) (r1 : Rvs X.K H1 vs us) (hl : us.length = n) (q : ∀ d, M1 d = none → Q (.ref C) (some d) (updM M1 d (.xd (flds us))))
    (hq : ∀ cls d H' M', TM H1 H' → SimM X.K M' H' → Q cls d M' → Qv cls d H') : ∀ a, H1 a = none → toSp X.K (spInit C n flds) (.ref a :: vs) (upd H1 a (exo a C none)) (fun v H2 => v = .non ∧ ∃ (d : Addr) (fs : List (Str × V)), H2 a = some (exo a C (some d)) ∧ H2 d = some (exd d fs) ∧ H1 d = none ∧ Qv (.ref C) (some d) (upd (del H2 a) d (.xd fs))) (fun _ _ _ => False) := fun a ha => by
  have ta : TM H1 (upd H1 a (exo a C none)) := TM.fresh ha
  have ma := m1.put (p := a) (o := .xo C none H1) (ho := exo a C none) ta (.inl ha) (by intro z; cases z) ⟨upd_same, fun b hb => upd_nn hb⟩
  refine ⟨.ref a :: us, _, fun u M' => u = .non ∧ ∃ dx, M1 dx = none ∧ dx ≠ a ∧ H1 dx = none ∧ M' = updM (updM (updM M1 a (.xo C none H1)) dx (.xf (flds us))) a (.xo C (some dx) H1), ma, .cons (.ref a) (Rvs.mono ta _ _ r1), ⟨a, us, H1, rfl, hl, updM_same, fun dx hd hne hf => ⟨rfl, dx, ?_, hne, hf, rfl⟩⟩, ?_⟩
  · rw [updM_ne hne] at hd; exact hd
  · rintro u M' v H2 ⟨rfl, dx, hd, hne, hf, rfl⟩ t m2 rv
    cases rv
    have ea : H2 a = some (exo a C (some dx)) ∧ _ := m2 a _ updM_same
    obtain ⟨gs, ed, rg⟩ := m2 dx (.xf (flds us)) (by rw [updM_ne hne, updM_same])
    obtain ⟨t3, m3⟩ := sim_made m1 ha m2 hne hd ea.1 ed rg
    exact ⟨rfl, dx, gs, ea.1, ed, hf, hq _ _ _ _ ((ta.trans t).trans t3) m3 (q dx hd)⟩
theorem wmk_own {E : Ev} {k' n : Nat} {flds : List VV → List (Str × VV)} {p : Pos} {Q : XQ} (B : E.bd N sc fl k X) (F : E.exc k' x n flds) (hk : k' + 1 ≤ k) (hg : sc.names.lookup x = some .globalImplicit)
    (h : WA X (e :: es) σ M fun us M1 => us.length = n ∧ n ≤ 900 ∧ ∀ d, M1 d = none → Q (.ref (He.ga E.K x)) (some d) (updM M1 d (.xd (flds us))))
    (hdb : (x == ("__debug__" : Str)) = false := by decide) (he : starEach (e :: es) X.env = (false, eval e X.env) :: starEach es X.env := by rfl) (hpl : (backTo pos (starEach es X.env)).any (·.1) = false := by rfl) : WMk X (.Call (.Name x p) (e :: es) [] pos) σ M Q := by
  obtain ⟨fI, fd, ps, T, iC, tI, F1, hb, hm⟩ := F
  have pas := B.pas X B.eprog B.ew
  obtain ⟨P, w, K, mg, base, CX, hp⟩ := E
  obtain ⟨rfl, rfl, rfl, rfl, rfl, rfl, rfl, _, room, _⟩ := B
  intro σ' H s m pins st I
  refine pmk_g T iC tI F1 (room.mono hk) hb pas hg hm wA.pa hdb he hpl pins st σ' H _ I ?_
  exact h.run s m fun vs H1 us M1 t1 m1 r1 s1 ⟨hl, hn, q⟩ => ⟨by rw [r1.length]; omega, mk_post (X := X) (Qv := fun cls d H' => ∃ M', TM H H' ∧ SimM X.K M' H' ∧ Q cls d M') m1 r1 hl q fun cls d H' M' t m' q => ⟨M', t1.trans t, m', q⟩⟩
theorem wmk_own0 {E : Ev} {k' : Nat} {flds : List VV → List (Str × VV)} {p : Pos} {Q : XQ} (B : E.bd N sc fl k X) (F : E.exc k' x 0 flds) (hk : k' + 1 ≤ k) (hg : sc.names.lookup x = some .globalImplicit)
    (q : ∀ d, M d = none → Q (.ref (He.ga E.K x)) (some d) (updM M d (.xd (flds [])))) (hdb : (x == ("__debug__" : Str)) = false := by decide) : WMk X (.Call (.Name x p) [] [] pos) σ M Q := by
  obtain ⟨fI, fd, ps, T, iC, tI, F1, hb, hm⟩ := F
  have pas := B.pas X B.eprog B.ew
  obtain ⟨P, w, K, mg, base, CX, hp⟩ := E
  obtain ⟨rfl, rfl, rfl, rfl, rfl, rfl, rfl, _, room, _⟩ := B
  intro σ' H s m pins st I
  refine pmk_g0 T iC tI F1 (room.mono hk) hb pas hg hm hdb pins st σ' H _ I ?_
  exact ⟨by decide, mk_post (X := X) (Qv := fun cls d H' => ∃ M', TM H H' ∧ SimM X.K M' H' ∧ Q cls d M') m .nil rfl q fun cls d H' M' t m' q => ⟨M', t, m', q⟩⟩
end
end G3

set_option Elab.async false
set_option linter.all false
set_option maxRecDepth 100000
set_option maxHeartbeats 4000000
/-! L3: try .. except, what is caught -/
namespace G3
open PySem PySem.Spec L2
/-- what must stay is told by the heap of things -/
def flrM (M : Mp) (H : Hp) : Mp := fun b => match M b with
  | some o => some o
  | none => match H b with
    | some (.tup xs) => some (.fix (.tup xs))
    | some (.frz o u) => some (.fix (.frz o u))
    | _ => none
theorem flr_in {M : Mp} {H : Hp} {b : Addr} {o : MO} (h : M b = some o) : flrM M H b = some o := by unfold flrM; rw [h]
theorem flr_le {M : Mp} {H : Hp} : LeM M (flrM M H) := fun _ _ h => flr_in h
theorem flr_at {M : Mp} {H : Hp} {b : Addr} {o : MO} (h : flrM M H b = some o) : M b = some o ∨ (M b = none ∧ ∃ u, o = .fix u ∧ H b = some u ∧ ∀ xs, u ≠ .lst xs) := by
  unfold flrM at h
  cases q : M b with
  | some o' => rw [q] at h; exact .inl h
  | none =>
    rw [q] at h
    refine .inr ⟨rfl, ?_⟩
    cases z : H b with
    | none => rw [z] at h; cases h
    | some u =>
      rw [z] at h
      cases u with
      | tup xs => cases h; exact ⟨_, rfl, rfl, fun _ z => nomatch z⟩
      | frz o u => cases h; exact ⟨_, rfl, rfl, fun _ z => nomatch z⟩
      | _ => cases h
theorem flr_sim {K : PySem.W.Frag} {M : Mp} {H : Hp} (m : SimM K M H) : SimM K (flrM M H) H := fun a o e => by
  rcases flr_at e with h | ⟨_, u, rfl, h, _⟩
  · have r := m a o h
    cases o with
    | bag =>
      obtain ⟨⟨c, i1, i2, i3, i4, cs, h1, h2, h3, h4⟩, hu⟩ := r
      refine ⟨⟨c, i1, i2, i3, i4, cs, h1, h2, ?_, h4⟩, fun b hb => ?_⟩
      · unfold flrM; rw [h3, h2]
      · rcases flr_at hb with hb | ⟨_, u, e, _⟩
        · exact hu b hb
        · cases e
    | tab q2 =>
      obtain ⟨ps, h1, h2, h3⟩ := r
      refine ⟨ps, h1, h2, fun pos cv hc => ?_⟩
      obtain ⟨c, e1, e2, e3⟩ := h3 pos cv hc
      exact ⟨c, e1, e2, by unfold flrM; rw [e3, e2]; rfl⟩
    | _ => exact r
  · exact h
theorem flr_tm {K : PySem.W.Frag} {M M' : Mp} {H H' : Hp} (m : SimM K M H) (l : LeM (flrM M H) M') (m' : SimM K M' H') : TM H H' := by
  have key : ∀ b u, H b = some u → ((∃ xs, u = .tup xs) ∨ ∃ o w, u = .frz o w) → H' b = some u := fun b u hu hk => by
    cases q : M b with
    | none =>
      have e : flrM M H b = some (.fix u) := by
        unfold flrM
        rw [q, hu]
        rcases hk with ⟨xs, rfl⟩ | ⟨o, w, rfl⟩ <;> rfl
      exact m' b _ (l b _ e)
    | some o =>
      have r := m b o q
      have r' := m' b o (l b _ (flr_in q))
      cases o with
      | fix v => rw [show H b = some v from r] at hu; cases hu; exact r'
      | lk o xs kvs => rw [show H b = some _ from r.1] at hu; cases hu; exact r'.1
      | lkT o xs kvs => rw [show H b = some _ from r.1] at hu; cases hu; exact r'.1
      | tab q2 => obtain ⟨ps, h1, _⟩ := r; rw [h1] at hu; cases hu; rcases hk with ⟨_, z⟩ | ⟨_, _, z⟩ <;> cases z
      | lst ws => obtain ⟨vs, h1, _⟩ := r; rw [h1] at hu; cases hu; rcases hk with ⟨_, z⟩ | ⟨_, _, z⟩ <;> cases z
      | dK ws => obtain ⟨vs, h1, _⟩ := r; rw [h1] at hu; cases hu; rcases hk with ⟨_, z⟩ | ⟨_, _, z⟩ <;> cases z
      | dT ws => obtain ⟨vs, h1, _⟩ := r; rw [h1] at hu; cases hu; rcases hk with ⟨_, z⟩ | ⟨_, _, z⟩ <;> cases z
      | ins C ws => obtain ⟨dx, vs, h1, _⟩ := r; rw [h1] at hu; cases hu; rcases hk with ⟨_, z⟩ | ⟨_, _, z⟩ <;> cases z
      | bag => obtain ⟨⟨_, _, _, _, _, _, h1, _⟩, _⟩ := r; rw [h1] at hu; cases hu; rcases hk with ⟨_, z⟩ | ⟨_, _, z⟩ <;> cases z
      | xd ws => obtain ⟨vs, h1, _⟩ := r; rw [h1] at hu; cases hu; rcases hk with ⟨_, z⟩ | ⟨_, _, z⟩ <;> cases z
      | xf ws => obtain ⟨vs, h1, _⟩ := r; rw [h1] at hu; cases hu; rcases hk with ⟨_, z⟩ | ⟨_, _, z⟩; exact absurd z exd_tup; exact absurd z exd_frz
      | xo C d Hf => rw [show H b = some _ from r.1] at hu; cases hu; rcases hk with ⟨_, z⟩ | ⟨_, _, z⟩; exact absurd z exo_tup; exact absurd z exo_frz
  exact ⟨fun b xs h => key b _ h (.inl ⟨xs, rfl⟩), fun b o u _ h => key b _ h (.inr ⟨o, u, rfl⟩)⟩
/-! ### an except suite's context -/
structure Bh (P : Program) (w : World) (K : PySem.W.Frag) (mg : Str → Option Value) (base : Heap) (N : List Str) (sc : Scope) (fl : Bool) (X : Cx) : Prop where
  eprog : X.prog = P
  ew : X.w = w
  eK : X.K = K
  emg : X.mg = mg
  ebase : X.base = base
  eN : X.N = N
  esc : X.env.scope = sc
  nd : N.Nodup
  fn : fl = true → ∀ x, X.fn x = true
/-- a is the exception in hand -/
def Hnd (Z : Cx) (a : Addr) (cls : Value) (d : Option Addr) : Prop := ∃ (X0 : Cx) (oe : Obj) (pn : List (Addr × Obj)), Z = X0.suite a ((a, oe) :: pn) ∧ Zc cls d oe ∧ ∃ vs, oe.data = .fields vs
abbrev Ev.bh (E : Ev) (N : List Str) (sc : Scope) (fl : Bool) (X : Cx) : Prop := Bh E.P E.w E.K E.mg E.base N sc fl X
theorem Slots.unset2 {K : PySem.W.Frag} {H : Hp} {σ' : St} {σ : St3} (s : Slots K H σ' σ) (i : Nat) : Slots K H (σ'.set i none) (σ.set i none) := by
  refine ⟨by simp [s.len], fun j u e => ?_⟩
  by_cases h : i = j
  · subst h
    have hl : i < σ.length := by
      have := (List.getElem?_eq_some_iff.mp e).1; simpa using this
    rw [List.getElem?_set_self hl] at e
    cases e
  · rw [List.getElem?_set_ne h] at e ⊢
    exact s.get j u e
section
variable {X : Cx} {a b c e o tg : Expr} {es : List Expr} {σ : St3} {M : Mp} {Q : VQ} {D : En} {pos : Pos} {x n : Str} {i : Nat} {Ro : XQ3}
variable {P : Program} {w : World} {K : PySem.W.Frag} {mg : Str → Option Value} {base : Heap} {CX : CXT} {N : List Str} {sc : Scope} {fl : Bool} {k : Nat}
/-- except x: suite -/
theorem ws_tryOnly {body suite : List Stmt} {b₀ : Stmt} {np pos' : Pos} {cv : Value} (B : Bd P w K mg base CX N sc fl k X) (S : Stk X) (tk : Tk X Ro) (hg : sc.names.lookup x = some .globalImplicit) (hm : mg x = some cv)
    (h : ∀ Mf, LeM M Mf → ∀ Y, Bd P w K mg base CX N sc fl k Y → Stk Y → Tk Y (fun cls d σ1 M1 => LeM Mf M1 ∧ ∃ b, PySem.W.exmOne K cls cv = some b ∧ (b = true → ∀ Z a, Bh P w K mg base N sc fl Z → Hnd Z a cls d → M1 a = none → WSs Z (b₀ :: suite) σ1 M1 D) ∧ (b = false → Ro cls d σ1 M1)) → WSs Y body σ Mf D)
    (hdb : (x == ("__debug__" : Str)) = false := by decide) : WS X (.Try body [.ExceptHandler (some (.Name x np)) none (b₀ :: suite) pos'] [] [] pos) σ M D := fun σ' H s m pins st I => by
  obtain ⟨rfl, rfl, rfl, rfl, rfl, rfl, rfl, calm, room, pas, own, nd, fnn⟩ := B
  obtain ⟨Wo, tWo, hWo⟩ := tk
  refine (ps_try_only (tb := fun W D σ' H' => ∀ pn xe, Takes (X.tr pn xe) W → PassesOwn (model X.prog X.w) X.A X.env xe → wSs (X.tr pn xe) body D σ' H')
    (ts := fun a cls d D σ' H' => ∀ pn oe, Zc cls d oe → (∃ vs, oe.data = .fields vs) → wSs (X.suite a ((a, oe) :: pn)) (b₀ :: suite) D σ' H') S.st S.fr ⟨hg, hdb, .inl hm⟩ tWo
    (fun W pn xe tW po => ⟨fun pins s σ H D I h => h pn xe tW po pins s I⟩) (fun a oe cls d pn hz hf => ⟨fun pins s σ H D I h => h pn oe hz hf pins s I⟩)).run pins st σ' H _ I ?_
  intro pn xe tW po
  refine h (flrM M H) flr_le (X.tr pn xe) ⟨rfl, rfl, rfl, rfl, rfl, rfl, rfl, calm, room, pas, po, nd, fnn⟩ ⟨S.st, S.fr⟩ ⟨_, tW, fun cls d σ1' σ1 H1 M1 t sl sm ⟨le, b, eb, hy, hn⟩ => ⟨b, eb, fun hb a ha pn' oe hz hf => ?_, fun hb => hWo cls d σ1' σ1 H1 M1 t sl sm (hn hb)⟩⟩ σ' H s (flr_sim m)
  exact (hy hb (X.suite a ((a, oe) :: pn')) a ⟨rfl, rfl, rfl, rfl, rfl, rfl, rfl, nd, fnn⟩ ⟨X, oe, pn', rfl, hz, hf⟩ (sm.no ha)).at (X := X.suite a ((a, oe) :: pn')) (flr_tm m le sm) sl sm
/-- except x as n: suite -/
theorem ws_tryAs {body suite : List Stmt} {b₀ : Stmt} {np pos' : Pos} {cv : Value} (B : Bd P w K mg base CX N sc fl k X) (S : Stk X) (tk : Tk X Ro) (hg : sc.names.lookup x = some .globalImplicit) (hm : mg x = some cv) (hi : At N i n) (hl : sc.names.lookup n = some .local)
    (h : ∀ Mf, LeM M Mf → ∀ Y, Bd P w K mg base CX N sc fl k Y → Stk Y → Tk Y (fun cls d σ1 M1 => LeM Mf M1 ∧ ∃ b, PySem.W.exmOne K cls cv = some b ∧ (b = true → ∀ Z a, Bh P w K mg base N sc fl Z → Hnd Z a cls d → M1 a = none → WSs Z (b₀ :: suite) (σ1.set i (some (.ref a))) M1 { nx := fun σ M => D.nx (σ.set i none) M, rt := D.rt, bk := fun σ M => D.bk (σ.set i none) M, ct := fun σ M => D.ct (σ.set i none) M }) ∧ (b = false → Ro cls d σ1 M1)) → WSs Y body σ Mf D)
    (hdb : (x == ("__debug__" : Str)) = false := by decide) : WS X (.Try body [.ExceptHandler (some (.Name x np)) (some n) (b₀ :: suite) pos'] [] [] pos) σ M D := fun σ' H s m pins st I => by
  obtain ⟨rfl, rfl, rfl, rfl, rfl, rfl, rfl, calm, room, pas, own, nd, fnn⟩ := B
  obtain ⟨Wo, tWo, hWo⟩ := tk
  refine (ps_try_as (tb := fun W D σ' H' => ∀ pn xe, Takes (X.tr pn xe) W → PassesOwn (model X.prog X.w) X.A X.env xe → wSs (X.tr pn xe) body D σ' H')
    (ts := fun a cls d D σ' H' => ∀ pn oe, Zc cls d oe → (∃ vs, oe.data = .fields vs) → wSs (X.suite a ((a, oe) :: pn)) (b₀ :: suite) D σ' H') S.st S.fr nd hi.get hl ⟨hg, hdb, .inl hm⟩ tWo
    (fun W pn xe tW po => ⟨fun pins s σ H D I h => h pn xe tW po pins s I⟩) (fun a oe cls d pn hz hf => ⟨fun pins s σ H D I h => h pn oe hz hf pins s I⟩)).run pins st σ' H _ I ?_
  intro pn xe tW po
  refine h (flrM M H) flr_le (X.tr pn xe) ⟨rfl, rfl, rfl, rfl, rfl, rfl, rfl, calm, room, pas, po, nd, fnn⟩ ⟨S.st, S.fr⟩ ⟨_, tW, fun cls d σ1' σ1 H1 M1 t sl sm ⟨le, b, eb, hy, hn⟩ => ⟨b, eb, fun hb a ha pn' oe hz hf => ?_, fun hb => hWo cls d σ1' σ1 H1 M1 t sl sm (hn hb)⟩⟩ σ' H s (flr_sim m)
  refine ((hy hb (X.suite a ((a, oe) :: pn')) a ⟨rfl, rfl, rfl, rfl, rfl, rfl, rfl, nd, fnn⟩ ⟨X, oe, pn', rfl, hz, hf⟩ (sm.no ha)).at (X := X.suite a ((a, oe) :: pn')) (flr_tm m le sm) (sl.set i (.ref a)) sm).mono ?_ (fun _ _ z => z) ?_ ?_
  · rintro σ2 H2 ⟨σ3, M3, t3, s3, m3, q⟩; exact ⟨_, M3, t3, s3.unset2 i, m3, q⟩
  · rintro σ2 H2 ⟨σ3, M3, t3, s3, m3, q⟩; exact ⟨_, M3, t3, s3.unset2 i, m3, q⟩
  · rintro σ2 H2 ⟨σ3, M3, t3, s3, m3, q⟩; exact ⟨_, M3, t3, s3.unset2 i, m3, q⟩
/-! ### rules in a suite -/
theorem we_nmH (B : Bh P w K mg base N sc fl X) {u : VV} (hi : At N i x) (hv : VisK sc x) (hs : σ[i]? = some (some u)) (q : Q u M) (hd : (x == ("__debug__" : Str)) = false := by decide) (hcd : (x == ("__classdict__" : Str)) = false := by decide) : WE X (.Name x pos) σ M Q :=
  we_name i (by rw [B.eN]; exact hi.get) (by rw [B.esc]; exact hv) hs q hd hcd
theorem ws_setH (B : Bh P w K mg base N sc fl X) {pos' : Pos} (hi : At N i x) (hx : LocK sc x) (h : WE X e σ M fun u M1 => D.nx (σ.set i (some u)) M1) (hf : fl = true ∨ sc.names.lookup x = some .local := by first | exact .inl rfl | exact .inr rfl)
    (hs : swapsWith e (some (.Name x pos')) pos.line X.env = pure false := by rfl) : WS X (.Assign [.Name x pos'] e pos) σ M D := fun σ' H s m => by
  have hf' : X.fn x = true ∨ X.env.scope.names.lookup x = some .local := by
    rcases hf with hf | hf
    · exact .inl (B.fn hf x)
    · exact .inr (by rw [B.esc]; exact hf)
  exact wS.of (ps_set (i := i) (by rw [B.eN]; exact B.nd) (by rw [B.eN]; exact hi.get) (by rw [B.esc]; exact hx) wE.pe hs hf') (h.run s m fun v H1 u M1 t1 m1 r1 s1 q => ⟨_, M1, t1, s1.set i r1, m1, q⟩)
theorem we_callBH {id : String} {p : Pos} (B : Bh P w K mg base N sc fl X) (hg : sc.names.lookup x = some .globalImplicit) (hm : mg x = none) (hv : bootBuiltins x = some (.builtin id)) (h : WA X (e :: es) σ M fun us M1 => OC X (.builtin id) us M1 Q) (hn : x ≠ "__name__" := by decide) (hdb : (x == ("__debug__" : Str)) = false := by decide)
    (he : starEach (e :: es) X.env = (false, eval e X.env) :: starEach es X.env := by rfl) (hpl : (backTo pos (starEach es X.env)).any (·.1) = false := by rfl) : WE X (.Call (.Name x p) (e :: es) [] pos) σ M Q := fun σ' H s m =>
  wE.of (pe_callB wCall.cr (by show X.env.scope.names.lookup _ = _; rw [B.esc]; exact hg) (by rw [B.emg]; exact hm) hv wA.pa hn hdb he hpl) (h.run s m fun vs H1 us M1 t1 m1 r1 s1 q1 => wCall.mono (q1 H1 vs m1 r1) fun _ _ z => PoE.tr t1 z)
theorem we_tynH {n : String} (B : Bh P w K mg base N sc fl X) (hg : sc.names.lookup x = some .globalImplicit) (hm : mg x = none) (hv : bootBuiltins x = some (.type n)) (q : Q (.ty n) M) (hn : x ≠ "__name__" := by decide) (hd : (x == ("__debug__" : Str)) = false := by decide) : WE X (.Name x pos) σ M Q :=
  we_ty (by show X.env.scope.names.lookup _ = _; rw [B.esc]; exact hg) (by rw [B.emg]; exact hm) hv q hn hd
theorem we_clsH {C : Addr} (B : Bh P w K mg base N sc fl X) (hg : sc.names.lookup x = some .globalImplicit) (hm : mg x = some (.ref C)) (q : Q (.ref C) M) (hd : (x == ("__debug__" : Str)) = false := by decide) : WE X (.Name x pos) σ M Q :=
  we_glob (v := .ref C) (by show X.env.scope.names.lookup _ = _; rw [B.esc]; exact hg) (by rw [B.emg]; exact hm) rfl (fun _ => .ref C) q hd
theorem we_cls {C : Addr} (B : Bd P w K mg base CX N sc fl k X) (hg : sc.names.lookup x = some .globalImplicit) (hm : mg x = some (.ref C)) (q : Q (.ref C) M) (hd : (x == ("__debug__" : Str)) = false := by decide) : WE X (.Name x pos) σ M Q :=
  we_glob (v := .ref C) (by show X.env.scope.names.lookup _ = _; rw [B.esc]; exact hg) (by rw [B.emg]; exact hm) rfl (fun _ => .ref C) q hd
end
/-! ### isinstance of what is caught -/
structure XIs (K : PySem.W.Frag) (C : Addr) : Prop where
  cl : (PySem.W.clsIn K C).isSome = true
  ga : PySem.W.findIn K (.ref C) "__getattribute__" = some (some (.builtin "BaseException.__getattribute__"))
  gt : PySem.W.findIn K (.ref C) "__getattr__" = some none
  sub : PySem.W.subIn K (.ref C) (.type "BaseException") = some true
  ca : PySem.W.findIn K (.ref C) "__class__" = some (some (.builtin "object.__class__"))
  cn : PySem.W.specialIn K (.builtin "object.__class__") "__get__" = some (some (.builtin "getset_descriptor.__get__"))
  ct : PySem.W.takesIn K (.builtin "object.__class__") = some true
  cm : PySem.W.mroIn K C (.type "object") = some true
  hd : PySem.W.hasDictIn K C = true
def xisB (K : PySem.W.Frag) (C : Addr) : Bool := (PySem.W.clsIn K C).isSome && decide (PySem.W.findIn K (.ref C) "__getattribute__" = some (some (.builtin "BaseException.__getattribute__"))) && decide (PySem.W.findIn K (.ref C) "__getattr__" = some none) && decide (PySem.W.subIn K (.ref C) (.type "BaseException") = some true) &&
  decide (PySem.W.findIn K (.ref C) "__class__" = some (some (.builtin "object.__class__"))) && decide (PySem.W.specialIn K (.builtin "object.__class__") "__get__" = some (some (.builtin "getset_descriptor.__get__"))) && decide (PySem.W.takesIn K (.builtin "object.__class__") = some true) && decide (PySem.W.mroIn K C (.type "object") = some true) && PySem.W.hasDictIn K C
theorem xisB_ok {K : PySem.W.Frag} {C : Addr} (h : xisB K C = true) : XIs K C := by
  unfold xisB at h
  simp only [Bool.and_eq_true, decide_eq_true_eq] at h
  obtain ⟨⟨⟨⟨⟨⟨⟨⟨h1, h2⟩, h3⟩, h4⟩, h5⟩, h6⟩, h7⟩, h8⟩, h9⟩ := h
  exact ⟨h1, h2, h3, h4, h5, h6, h7, h8, h9⟩
theorem XIs.xf {K : PySem.W.Frag} {C : Addr} (h : XIs K C) : XfC K C := ⟨h.ga, h.gt, h.sub, h.hd⟩
inductive CW : VV → Value → Prop
  | ty (n : String) : CW (.ty n) (.type n)
  | own (C : Addr) : CW (.ref C) (.ref C)
theorem CW.v {K : PySem.W.Frag} {H : Hp} {w : VV} {u : Value} {v : V} (h : CW w u) (r : Rv K H v w) : ClsV v u := by
  cases h with
  | ty n => cases r; exact .ty n
  | own C => cases r; exact .own C
inductive CWs : List VV → List Value → Prop
  | nil : CWs [] []
  | cons {w u ws us} : CW w u → CWs ws us → CWs (w :: ws) (u :: us)
theorem CWs.v {K : PySem.W.Frag} {H : Hp} {ws : List VV} {us : List Value} (h : CWs ws us) : ∀ {vs : List V}, Rvs K H vs ws → Paired ClsV vs us := by
  induction h with
  | nil => intro vs r; cases r; exact .nil
  | cons h1 _ ih => intro vs r; cases r with | cons a b => exact .cons (h1.v a) (ih b)
section
variable {X : Cx} {M : Mp} {Q : VQ} {a d C : Addr} {fs : List (Str × VV)} {b : Bool}
theorem hnd_inst (hn : Hnd X a (.ref C) (some d)) (hd : M d = some (.xd fs)) {H : Hp} (m : SimM X.K M H) {pins : List (Addr × Obj)} {σ : St} {s : Shared} (I : Inv X pins σ H s) : ∃ oe od, PySem.W.InstAt s.heap a oe C (some od) := by
  obtain ⟨X0, oe, pn, rfl, hz, vs, hv⟩ := hn
  obtain ⟨gs, ed, _⟩ := m d _ hd
  obtain ⟨ha, _⟩ := I.pin (a, oe) (List.mem_append_left _ List.mem_cons_self)
  obtain ⟨mA, hns, hr⟩ := (show ObjOk X0.prog X0.w H s.heap d (.xd gs) from I.hok d _ ed)
  obtain ⟨od, ho, _⟩ := lookIn_ns hns
  exact ⟨oe, od, ha, hz.1, by unfold PySem.W.notCls; rw [hv] <;> rfl, by rw [hz.2]; exact ho⟩
theorem oc_isx {w : VV} {u : Value} (hn : Hnd X a (.ref C) (some d)) (hd : M d = some (.xd fs)) (T : XIs X.K C) (hw : CW w u) (e : PySem.W.kitOne X.K (.ref C) u = some b) (q : Q (.bl b) M) : OC X (.builtin "isinstance") [.ref a, w] M Q := fun H vs m r pins s σ us I rr => by
  cases r with
  | cons r1 r2 =>
    cases r2 with
    | cons r3 r4 =>
      cases r4; cases r1
      obtain ⟨u1, u2, rfl, z1, z2⟩ := vals2 rr
      cases (show u1 = Value.ref a from z1)
      have e2 := (hw.v r3).eq z2
      subst e2
      obtain ⟨oe, od, J⟩ := hnd_inst hn hd m I
      exact PySem.W.kia_one (PySem.W.kitx_exc T.cl T.ga T.gt T.sub T.ca T.cn T.ct T.cm) I.kIn J e (fun z => nomatch z) fun tk => ⟨.bl b, H, I.tok tk, rfl, .mk m (.bl b) q⟩
theorem oc_isxT {ws : List VV} {us : List Value} (hn : Hnd X a (.ref C) (some d)) (hd : M d = some (.xd fs)) (T : XIs X.K C) (hw : CWs ws us) (e : PySem.W.kitAny X.K (.ref C) us = some b) (q : Q (.bl b) M) : OC X (.builtin "isinstance") [.ref a, .tup ws] M Q := fun H vs m r pins s σ us' I rr => by
  cases r with
  | cons r1 r2 =>
    cases r2 with
    | cons r3 r4 =>
      cases r4; cases r1
      obtain ⟨u1, u2, rfl, z1, z2⟩ := vals2 rr
      cases (show u1 = Value.ref a from z1)
      obtain ⟨oe, od, J⟩ := hnd_inst hn hd m I
      obtain ⟨p, vs, rfl, h1, h2⟩ := r3.tupv
      cases (show u2 = Value.ref p from z2)
      have cv := hw.v h2
      have Z := PySem.W.kitx_exc (x := a) (ox := oe) (od := some od) T.cl T.ga T.gt T.sub T.ca T.cn T.ct T.cm
      rcases h1 with (h1 | ⟨o, h1⟩) | ⟨o, its, nn, h1, hc, hdt, hs, hv⟩
      · obtain ⟨_, its, rv, o', g1, g2, n0, g3⟩ := (show ObjOk X.prog X.w H s.heap p (.tup vs) from I.hok p _ h1)
        have e3 := ClsV.all cv rv
        subst e3
        obtain ⟨oc, od', dt, sl⟩ := o'
        simp only at g2 g3
        subst g2 g3
        exact PySem.W.kia_tup Z I.kIn J g1 e (fun z => nomatch z) fun tk => ⟨.bl _, H, I.tok tk, rfl, .mk m (.bl _) q⟩
      · obtain ⟨_, _, its, rv, o', g1, g2, n0, g3⟩ := (show ObjOk X.prog X.w H s.heap p (.frz o (.tup vs)) from I.hok p _ h1)
        have e3 := ClsV.all cv rv
        subst e3
        obtain ⟨oc, od', dt, sl⟩ := o'
        simp only at g2 g3
        subst g2 g3
        exact PySem.W.kia_tup Z I.kIn J g1 e (fun z => nomatch z) fun tk => ⟨.bl _, H, I.tok tk, rfl, .mk m (.bl _) q⟩
      · obtain ⟨oc, od', dt, sl⟩ := o
        simp only at hc hdt
        subst hc hdt
        have e3 := ClsV.all cv hv
        have e4 : its = us.toArray := by rw [← e3]
        subst e4
        exact PySem.W.kia_tup Z I.kIn J (I.kIn _ _ h1) e (fun z => nomatch z) fun tk => ⟨.bl _, H, I.tok tk, rfl, .mk m (.bl _) q⟩
theorem Rkv.look {K : PySem.W.Frag} {H : Hp} {gs : List (Str × V)} : ∀ {fs : List (Str × VV)} {f : Str} {w : VV}, Rkv K H gs fs → fs.lookup f = some w → ∃ v, gs.lookup f = some v ∧ Rv K H v w := by
  induction gs with
  | nil => intro fs f w r h; cases r; cases h
  | cons p gs ih =>
    intro fs f w r h
    cases r with
    | @cons kk v w' _ ys h1 h2 =>
      rw [List.lookup_cons] at h ⊢
      cases z : (f == kk) with
      | true => rw [z] at h; cases h; exact ⟨v, rfl, h1⟩
      | false => rw [z] at h; exact ih h2 h
/-- e.f of what is caught -/
theorem we_xf {e : Expr} {σ : St3} {pos : Pos} {n : Str} (hn : Hnd X a (.ref C) (some d)) (T : XfC X.K C) (hno : PySem.W.findIn X.K (.ref C) n = some none) (h : WE X e σ M fun u M1 => u = .ref a ∧ ∃ fs w, M1 d = some (.xd fs) ∧ fs.lookup n = some w ∧ Q w M1)
    (hb : ∀ Y : Cx, attributeBase e n Y.env (eval e Y.env) = eval e Y.env := by intro _; rfl) : WE X (.Attribute e n pos) σ M Q := fun σ' H s m => by
  obtain ⟨X0, oe, pn, rfl, hz, hv⟩ := hn
  refine wE.of (pe_xf T hno hz hv wE.pe (hb X0)) (h.run s m fun v H1 u M1 t1 m1 r1 s1 ⟨eu, fs, w, ed, el, q⟩ => ?_)
  subst eu
  cases r1
  obtain ⟨gs, e1, e2⟩ := m1 d _ ed
  obtain ⟨v, e3, e4⟩ := e2.look el
  exact ⟨rfl, rfl, d, gs, v, rfl, e1, e3, w, M1, t1, m1, e4, q⟩
end
end G3

set_option Elab.async false
set_option linter.all false
set_option maxRecDepth 100000
set_option maxHeartbeats 4000000
/-! L3: the text's own exception classes under one head -/
namespace G3
open PySem PySem.Spec L2
theorem exat {l : List Bool} (h : l.all id = true) (i : Nat) {b : Bool} (e : l[i]? = some b) : b = true := List.all_eq_true.mp h b (List.mem_of_getElem? e)
/-- a method's statement -/
def mth (st : Stmt) (j : Nat) : Stmt := (match st with | .ClassDef (body := b) .. => b | _ => []).getD j (.Pass ⟨0, 0, 0, 0⟩)
/-- a method's datum for the head -/
def dDm (C m : Str) (st : Stmt) (qual : Str) : He.DefD := ⟨(C, some m), m, qual, defArgs st, defBody st, defScope st, [], []⟩
inductive XB4 where | value | lookup | index | zero
def XB4.bm : XB4 → List Value
  | .value => [.type "ValueError", .type "Exception", .type "BaseException", .type "object"]
  | .lookup => [.type "LookupError", .type "Exception", .type "BaseException", .type "object"]
  | .index => [.type "IndexError", .type "LookupError", .type "Exception", .type "BaseException", .type "object"]
  | .zero => [.type "ZeroDivisionError", .type "ArithmeticError", .type "Exception", .type "BaseException", .type "object"]
def XB4.nid : XB4 → String
  | .value => "ValueError.__new__"
  | .lookup => "LookupError.__new__"
  | .index => "IndexError.__new__"
  | .zero => "ZeroDivisionError.__new__"
theorem XB4.ok : ∀ b : XB4, ∃ B i, XBase B b.nid i b.bm
  | .value => ⟨_, _, xb_value⟩
  | .lookup => ⟨_, _, xb_lookup⟩
  | .index => ⟨_, _, xb_index⟩
  | .zero => ⟨_, _, xb_zero⟩
def excB (K : PySem.W.Frag) (x : Str) (b : XB4) (fs : List Str) : Bool :=
  xcls K (He.ga K x) b.bm b.nid && decide (PySem.W.findIn K (.ref (He.ga K x)) "__init__" = some (some (.ref (He.ma K (He.ga K x) "__init__")))) && decide (PySem.W.typeIn K (.ref (He.ma K (He.ga K x) "__init__")) = some (.type "function")) &&
    (fs.all fun f => decide (PySem.W.takerIn K (He.ga K x) f = some none)) && xisB K (He.ga K x)
structure ExcF (K : PySem.W.Frag) (x : Str) (fs : List Str) : Prop where
  T : XCls K (He.ga K x)
  iC : PySem.W.findIn K (.ref (He.ga K x)) "__init__" = some (some (.ref (He.ma K (He.ga K x) "__init__")))
  tI : PySem.W.typeIn K (.ref (He.ma K (He.ga K x) "__init__")) = some (.type "function")
  tk : ∀ f ∈ fs, PySem.W.takerIn K (He.ga K x) f = some none
  xi : XIs K (He.ga K x)
theorem excB_ok {K : PySem.W.Frag} {x : Str} {b : XB4} {fs : List Str} (h : excB K x b fs = true) : ExcF K x fs := by
  unfold excB at h
  simp only [Bool.and_eq_true, decide_eq_true_eq] at h
  obtain ⟨⟨⟨⟨h1, h2⟩, h3⟩, h4⟩, h5⟩ := h
  obtain ⟨B, i, hb⟩ := b.ok
  exact ⟨xcls_ok hb h1, h2, h3, fun f hf => of_decide_eq_true (List.all_eq_true.mp h4 f hf), xisB_ok h5⟩
section
variable {P : Program} {w : World} {K : PySem.W.Frag} {mg : Str → Option Value} {base : Heap} {N : List Str} {sc : Scope} {fl : Bool} {X : Cx} {M : Mp} {Q : VQ} {a d C : Addr} {fs : List (Str × VV)} {b : Bool}
theorem oc_isxH {v : VV} {u : Value} (B : Bh P w K mg base N sc fl X) (hn : Hnd X a (.ref C) (some d)) (hd : M d = some (.xd fs)) (T : XIs K C) (hw : CW v u) (e : PySem.W.kitOne K (.ref C) u = some b) (q : Q (.bl b) M) : OC X (.builtin "isinstance") [.ref a, v] M Q := by
  obtain rfl := B.eK; exact oc_isx hn hd T hw e q
theorem oc_isxTH {ws : List VV} {us : List Value} (B : Bh P w K mg base N sc fl X) (hn : Hnd X a (.ref C) (some d)) (hd : M d = some (.xd fs)) (T : XIs K C) (hw : CWs ws us) (e : PySem.W.kitAny K (.ref C) us = some b) (q : Q (.bl b) M) : OC X (.builtin "isinstance") [.ref a, .tup ws] M Q := by
  obtain rfl := B.eK; exact oc_isxT hn hd T hw e q
theorem we_xfH {e : Expr} {σ : St3} {pos : Pos} {n : Str} (B : Bh P w K mg base N sc fl X) (hn : Hnd X a (.ref C) (some d)) (T : XIs K C) (hno : PySem.W.findIn K (.ref C) n = some none) (h : WE X e σ M fun u M1 => u = .ref a ∧ ∃ fs w, M1 d = some (.xd fs) ∧ fs.lookup n = some w ∧ Q w M1)
    (hb : ∀ Y : Cx, attributeBase e n Y.env (eval e Y.env) = eval e Y.env := by intro _; rfl) : WE X (.Attribute e n pos) σ M Q := by
  obtain rfl := B.eK; exact we_xf hn T.xf hno h hb
theorem ws_gstB {CX : CXT} {k : Nat} {e o : Expr} {σ : St3} {D : En} {pos : Pos} {f : Str} {p' : Pos} (B : Bd P w K mg base CX N sc fl k X) (h : WE X e σ M fun y M1 => WE X o σ M1 fun u M2 => ∃ a C Hf, u = .ref a ∧ XCls K C ∧ PySem.W.takerIn K C f = some none ∧
      ((M2 a = some (.xo C none Hf) ∧ ∀ dx, M2 dx = none → dx ≠ a → Hf dx = none → D.nx σ (updM (updM M2 dx (.xf [(f, y)])) a (.xo C (some dx) Hf))) ∨
        ∃ dx fs, M2 a = some (.xo C (some dx) Hf) ∧ M2 dx = some (.xf fs) ∧ fs.length ≤ 900 ∧ D.nx σ (updM M2 dx (.xf ((f, y) :: fs)))))
    (hs : swapsWith e (some (.Attribute o f p')) pos.line X.env = pure false := by rfl) : WS X (.Assign [.Attribute o f p'] e pos) σ M D := by
  obtain rfl := B.eK; exact ws_gst h hs
end
section
variable {E : Ev} {x w qual : Str} {ps N : List Str} {fd : FuncData} {st : Stmt} {p1 p2 p3 p4 p5 p6 p7 p8 p9 p10 p11 p12 : Pos} {j : Nat}
theorem FunD.binds {K : PySem.W.Frag} {name : Str} {fI : Addr} (F : FunD K name qual (defArgs st) (defBody st) (defScope st) [] [] fI fd)
    (hb : ∀ (kV doc pm : Value) (an : Option Addr) (cdv ct : Value) (us : List Value), us.length = ps.length → bindArgs (PySem.W.fnOf name qual (defArgs st) (defBody st) (defScope st) .none kV doc pm an cdv ct) ⟨us, []⟩ = pure (ps.zip us)) : Binds K fd ps [] := fun s us _ hl => by
  rw [List.append_nil] at hl ⊢
  exact FunD.bindsA (ps := ps) F hb s us hl
theorem exc_of {n : Nat} {flds : List VV → List (Str × VV)} {fs : List Str} (hX : E.xc) (F : FunD E.K "__init__" qual (defArgs st) (defBody st) (defScope st) [] [] (He.ma E.K (He.ga E.K x) "__init__") fd) (C : ExcF E.K x fs) (hm : E.mg x = some (.ref (He.ga E.K x))) (S : FnScope N ps (defScope st)) (hn : ps.length = n + 1)
    (hb : ∀ (kV doc pm : Value) (an : Option Addr) (cdv ct : Value) (us : List Value), us.length = ps.length → bindArgs (PySem.W.fnOf "__init__" qual (defArgs st) (defBody st) (defScope st) .none kV doc pm an cdv ct) ⟨us, []⟩ = pure (ps.zip us))
    (body : ∀ X : Cx, E.bd N (defScope st) true 0 X → ∀ ws M Q, spInit (He.ga E.K x) n flds ws M Q → WSs X (defBody st) (ws.map some ++ List.replicate (N.length - ws.length) none) M { nx := fun _ M' => ∃ M0, LeM M0 M' ∧ Q .non M0, rt := fun u M' => ∃ M0, LeM M0 M' ∧ Q u M0 }) : E.exc 1 x n flds := by
  have F1 := fnx_of (k := 0) (sp := fun ws M Q _ => spInit (He.ga E.K x) n flds ws M Q) hX F N S (fun ws M Q R ⟨a, us, Hf, e, hl, _⟩ => by rw [e, hn]; simp [hl]) fun X B _ ws M Q R h _ => body X B ws M Q h
  exact ⟨_, fd, ps, C.T, C.iC, C.tI, F1.imp fun vs H Q Ex ⟨ws, M, Q3, a, b, c, d⟩ => ⟨ws, M, Q3, noX, a, b, c, d, fun _ _ _ _ z => z.elim⟩, FunD.binds F hb, hm⟩
end
/-! the law's def lets nothing out -/
theorem pass_cx {P : Program} {w : World} {Y : Cx} : Passes (L2.CX P w) Y E0 := fun _ _ _ _ _ _ _ ⟨_, _, _, _, _, _, _, _, _, _, _, _, z⟩ => z.elim
theorem fn_noX {P : Program} {w : World} {K : PySem.W.Frag} {mg : Str → Option Value} {base : Heap} {k : Nat} {f : Addr} {fd : FuncData} {ps : List Str} {sp : Sp3} (F : FnOk P w K mg base (L2.CX P w) k f fd ps (toSp K sp)) : FnOk P w K mg base CX0 k f fd ps (toSp K sp) :=
  ⟨fun vs H Q E h => F.len vs H Q E h, fun A outer s H args us vs Q E hr he hb hv hs => codeAny_mono (F.run A outer s H args us vs Q (fun _ _ _ => False) hr he hb hv hs) fun r s' hq => by
    cases r with
    | error e => obtain ⟨_, _, _, _, _, _, _, _, _, _, _, _, z⟩ := hq; exact z.elim
    | ok fl =>
      cases fl with
      | ret u => exact hq
      | next => exact hq
      | brk => exact hq
      | cont => exact hq⟩
end G3

set_option Elab.async false
set_option linter.all false
set_option maxRecDepth 100000
set_option maxHeartbeats 4000000
/-! L3: dicts in the heap of things: keys ints and texts, or tuples of them -/
namespace G3
open PySem PySem.Spec L2
section
variable {κ : Type} [DecidableEq κ]
def lookW (kvs : List (κ × VV)) (k : κ) : Option VV := (kvs.find? fun q => decide (q.1 = k)).map (·.2)
def putW (kvs : List (κ × VV)) (k : κ) (w : VV) : List (κ × VV) := if (kvs.any fun q => decide (q.1 = k)) = true then kvs.map (fun q => if q.1 = k then (q.1, w) else q) else kvs ++ [(k, w)]
def cutK (kvs : List (κ × VV)) (k : κ) : List (κ × VV) := kvs.filter fun q => decide (q.1 ≠ k)
variable {K : PySem.W.Frag} {H : Hp}
theorem Rkv.len {gs : List (κ × V)} {kvs : List (κ × VV)} (r : Rkv K H gs kvs) : gs.length = kvs.length := by
  induction r with
  | nil => rfl
  | cons _ _ ih => simp [ih]
theorem Rkv.any {gs : List (κ × V)} {kvs : List (κ × VV)} (r : Rkv K H gs kvs) (p : κ → Bool) : (gs.any fun q => p q.1) = kvs.any fun q => p q.1 := by
  induction r with
  | nil => rfl
  | cons _ _ ih => simp [List.any_cons, ih]
theorem Rkv.val {gs : List (κ × V)} {kvs : List (κ × VV)} (r : Rkv K H gs kvs) (k : κ) : (∀ w, lookW kvs k = some w → ∃ v, valV gs k = some v ∧ Rv K H v w) ∧ (lookW kvs k = none → valV gs k = none) := by
  induction r with
  | nil => exact ⟨fun w h => (by cases h), fun _ => rfl⟩
  | @cons kk v w xs ys h1 _ ih =>
    unfold lookW valV
    by_cases c : kk = k
    · simp only [List.find?_cons, c, decide_true, Option.map_some]
      exact ⟨fun w' h => (by cases h; exact ⟨v, rfl, h1⟩), fun h => (by cases h)⟩
    · simp only [List.find?_cons, c, decide_false]
      exact ih
theorem Rkv.app {gs gs' : List (κ × V)} {kvs kvs' : List (κ × VV)} (r : Rkv K H gs kvs) (r' : Rkv K H gs' kvs') : Rkv K H (gs ++ gs') (kvs ++ kvs') := by
  induction r with
  | nil => exact r'
  | cons h1 _ ih => exact .cons h1 ih
theorem Rkv.put {gs : List (κ × V)} {kvs : List (κ × VV)} (r : Rkv K H gs kvs) (k : κ) {v : V} {w : VV} (h : Rv K H v w) : Rkv K H (putK gs k v) (putW kvs k w) := by
  unfold putK putW
  rw [Rkv.any r fun q => decide (q = k)]
  split
  · rename_i hc
    clear hc
    induction r with
    | nil => exact .nil
    | @cons kk v' w' xs ys h1 _ ih =>
      by_cases c : kk = k
      · simp only [List.map_cons, c, if_true]; exact .cons h ih
      · simp only [List.map_cons, c, if_false]; exact .cons h1 ih
  · exact r.app (.cons h .nil)
theorem Rkv.cut {gs : List (κ × V)} {kvs : List (κ × VV)} (r : Rkv K H gs kvs) (k : κ) : Rkv K H (dropK gs k) (cutK kvs k) := by
  unfold dropK cutK
  induction r with
  | nil => exact .nil
  | @cons kk v' w' xs ys h1 _ ih =>
    by_cases c : kk = k
    · simp only [List.filter_cons, c, ne_eq, not_true_eq_false, decide_false]; exact ih
    · simp only [List.filter_cons, c, ne_eq, not_false_eq_true, decide_true, if_true]; exact .cons h1 ih
theorem Rkv.keys {gs : List (κ × V)} {kvs : List (κ × VV)} (r : Rkv K H gs kvs) : gs.map (·.1) = kvs.map (·.1) := r.split.1
theorem Rkv.at {gs : List (κ × V)} {kvs : List (κ × VV)} (r : Rkv K H gs kvs) : ∀ {i : Nat} {k : κ} {v : V}, gs[i]? = some (k, v) → ∃ w, kvs[i]? = some (k, w) ∧ Rv K H v w := by
  induction r with
  | nil => intro i k v h; cases h
  | cons h1 _ ih =>
    intro i k v h
    cases i with
    | zero => cases h; exact ⟨_, rfl, h1⟩
    | succ i => exact ih h
end
/-- a dict of ints and texts at a, locked or not -/
def DkAt (M : Mp) (a : Addr) (kvs : List (Key × VV)) : Prop := M a = some (.dK kvs) ∨ ∃ o xs, M a = some (.lk o xs kvs)
def DtAt (M : Mp) (a : Addr) (kvs : List (List Key × VV)) : Prop := M a = some (.dT kvs) ∨ ∃ o xs, M a = some (.lkT o xs kvs)
theorem DkAt.v {K : PySem.W.Frag} {M : Mp} {H : Hp} {a : Addr} {kvs : List (Key × VV)} (h : DkAt M a kvs) (m : SimM K M H) : ∃ gs, Rd H a (.dK gs) ∧ Rkv K H gs kvs := by
  rcases h with h | ⟨o, xs, h⟩
  · obtain ⟨gs, e, r⟩ := m a _ h; exact ⟨gs, .inl e, r⟩
  · obtain ⟨e, r⟩ := m a _ h; exact ⟨xs, .inr ⟨o, e⟩, r⟩
theorem DtAt.v {K : PySem.W.Frag} {M : Mp} {H : Hp} {a : Addr} {kvs : List (List Key × VV)} (h : DtAt M a kvs) (m : SimM K M H) : ∃ gs, Rd H a (.dT gs) ∧ Rkv K H gs kvs := by
  rcases h with h | ⟨o, xs, h⟩
  · obtain ⟨gs, e, r⟩ := m a _ h; exact ⟨gs, .inl e, r⟩
  · obtain ⟨e, r⟩ := m a _ h; exact ⟨xs, .inr ⟨o, e⟩, r⟩
theorem DkAt.le {M M' : Mp} {a : Addr} {kvs : List (Key × VV)} (h : DkAt M a kvs) (l : LeM M M') : DkAt M' a kvs := by
  rcases h with h | ⟨o, xs, h⟩
  · exact .inl (l _ _ h)
  · exact .inr ⟨o, xs, l _ _ h⟩
theorem DtAt.le {M M' : Mp} {a : Addr} {kvs : List (List Key × VV)} (h : DtAt M a kvs) (l : LeM M M') : DtAt M' a kvs := by
  rcases h with h | ⟨o, xs, h⟩
  · exact .inl (l _ _ h)
  · exact .inr ⟨o, xs, l _ _ h⟩
theorem Rv.key {K : PySem.W.Frag} {H : Hp} {v : V} : ∀ {k : Key}, Rv K H v (kW k) → v = kV k
  | .inl i, h => by cases h; rfl
  | .inr x, h => by cases h; rfl
/-- a key of a tuple -/
abbrev tW (ks : List Key) : VV := .ftp (ks.map kW)
theorem Rvs.keysV {K : PySem.W.Frag} {H : Hp} : ∀ {ks : List Key} {vs : List V}, Rvs K H vs (ks.map kW) → vs = ks.map kV
  | [], _, h => by cases h; rfl
  | k :: ks, _, h => by cases h with | cons a b => rw [Rv.key a, Rvs.keysV b]; rfl
theorem Rv.tkey {K : PySem.W.Frag} {H : Hp} {v : V} {ks : List Key} (h : Rv K H v (tW ks)) : ∃ b, v = .ref b ∧ H b = some (.tup (ks.map kV)) := by
  cases h with
  | ftp h1 h2 => rw [Rvs.keysV h2] at h1; exact ⟨_, rfl, h1⟩
/-- what d holds at the key value y -/
inductive Dg (M : Mp) : VV → VV → Option VV → Prop
  | k {a kvs} (k : Key) : DkAt M a kvs → Dg M (.ref a) (kW k) (lookW kvs k)
  | t {a kvs} (ks : List Key) : DtAt M a kvs → Dg M (.ref a) (tW ks) (lookW kvs ks)
theorem Dg.v {K : PySem.W.Frag} {M : Mp} {H : Hp} {x y : VV} {o : Option VV} {v u : V} (h : Dg M x y o) (m : SimM K M H) (r1 : Rv K H v x) (r2 : Rv K H u y) : ∃ a o', v = .ref a ∧ DGet H a u o' ∧ o'.isSome = o.isSome ∧ ∀ w, o = some w → ∃ z, o' = some z ∧ Rv K H z w := by
  cases h with
  | k k h =>
    obtain ⟨gs, e, r⟩ := h.v m
    cases r1
    cases Rv.key r2
    obtain ⟨h1, h2⟩ := r.val k
    refine ⟨_, _, rfl, .inl ⟨gs, k, e, rfl, rfl⟩, ?_, h1⟩
    cases q : lookW _ k with
    | none => rw [h2 q]; rfl
    | some w => obtain ⟨v, e, _⟩ := h1 w q; rw [e]; rfl
  | t ks h =>
    obtain ⟨gs, e, r⟩ := h.v m
    cases r1
    obtain ⟨b, rfl, eb⟩ := r2.tkey
    obtain ⟨h1, h2⟩ := r.val ks
    refine ⟨_, _, rfl, .inr ⟨gs, ks, b, e, rfl, eb, rfl⟩, ?_, h1⟩
    cases q : lookW _ ks with
    | none => rw [h2 q]; rfl
    | some w => obtain ⟨v, e, _⟩ := h1 w q; rw [e]; rfl
section
variable {X : Cx} {a b c e tg : Expr} {es : List Expr} {σ : St3} {M : Mp} {Q : VQ} {D : En} {pos : Pos} {x : Str} {i : Nat}
variable {P : Program} {w : World} {K : PySem.W.Frag} {mg : Str → Option Value} {base : Heap} {CX : CXT} {N : List Str} {sc : Scope} {fl : Bool} {k : Nat}
theorem Bd.u1 (B : Bd P w K mg base CX N sc fl k X) : X.A.units + 1 < cLine := by have := B.room.units; omega
theorem oi_dic (B : Bd P w K mg base CX N sc fl k X) {x y z : VV} (h : Dg M x y (some z)) (q : Q z M) : OI X x y M Q := fun H v u m r1 r2 => fun value slice pins s σ v1 u1 I z1 z2 hsl => by
  obtain ⟨a, o', rfl, g, _, h2⟩ := h.v m r1 r2
  obtain ⟨zv, rfl, rz⟩ := h2 _ rfl
  cases z1
  have hT := dict_typeIs I g
  unfold PyProof.Rows.subscriptTail
  refine wpAny_bind ?_
  rw [getitemInPython_of_ne hT.not_modules]
  refine wpAny_bind (wpAny_specialOf hT PySem.F.slot_dict_getitem.lookup ?_)
  have last : wpAny (model X.prog X.w) X.A (subscripted slice false (.ref a) u1) (fun r s₃ => wpAny (model X.prog X.w) X.A (letTemporaryGo value (.ref a) r >>= fun _ => pure r) (EP X pins σ (PoE X.K H Q)) X.xe s₃) X.xe s := by
    rw [hsl]
    exact wpAny_operating (d_getItem B.u1 I g z2 fun w' s3 I3 rw' => wpAny_bind (wpAny_letTemporaryGo (wpAny_pure ⟨zv, H, I3, rw', .mk m rz q⟩)))
  first
    | exact wpAny_pure (wpAny_bind last)
    | exact wpAny_bind (wpAny_pure (wpAny_bind last))
    | exact wpAny_bind last
theorem o2_inD2 (B : Bd P w K mg base CX N sc fl k X) {x y : VV} {o : Option VV} (h : Dg M x y o) (q : Q (.bl o.isSome) M) : O2 X (compareOp .In) y x M Q := fun H v u m r1 r2 => fun pins s σ v1 u1 I z1 z2 => by
  obtain ⟨a, o', rfl, g, e, _⟩ := h.v m r2 r1
  cases z2
  exact d_in B.u1 I g z1 fun s' I' => ⟨.bl _, H, I', rfl, .mk m (.bl _) (by rw [e]; exact q)⟩
theorem o2_ninD2 (B : Bd P w K mg base CX N sc fl k X) {x y : VV} {o : Option VV} (h : Dg M x y o) (q : Q (.bl (!o.isSome)) M) : O2 X (compareOp .NotIn) y x M Q := fun H v u m r1 r2 => fun pins s σ v1 u1 I z1 z2 => by
  obtain ⟨a, o', rfl, g, e, _⟩ := h.v m r2 r1
  cases z2
  exact d_notIn B.u1 I g z1 fun s' I' => ⟨.bl _, H, I', rfl, .mk m (.bl _) (by rw [e]; exact q)⟩
theorem TM.dK {H : Hp} {p : Addr} {xs : List (Key × V)} {ho : HO} (h : H p = some (.dK xs)) : TM H (upd H p ho) := TM.mut h (by intro _ z; cases z) (by intro _ _ z; cases z)
theorem TM.dT {H : Hp} {p : Addr} {xs : List (List Key × V)} {ho : HO} (h : H p = some (.dT xs)) : TM H (upd H p ho) := TM.mut h (by intro _ z; cases z) (by intro _ _ z; cases z)
theorem TM.ins {H : Hp} {p C dx : Addr} {xs : List (Str × V)} {ho : HO} (h : H p = some (.ins C dx xs)) : TM H (upd H p ho) := TM.mut h (by intro _ z; cases z) (by intro _ _ z; cases z)
theorem oset_dK (B : Bd P w K mg base CX N sc fl k X) {a : Addr} {kvs : List (Key × VV)} (k1 : Key) {y : VV} {Q : Mp → Prop} (h : M a = some (.dK kvs)) (hl : kvs.length < sizeLine) (q : Q (updM M a (.dK (putW kvs k1 y)))) : OSet X (.ref a) (kW k1) y M Q := fun H v1 v2 v3 m r1 r2 r3 => fun pins s σ ov iv u I z1 z2 z3 => by
  obtain ⟨gs, e, r⟩ := m a _ h
  cases r1
  cases Rv.key r2
  cases z1
  have t := TM.dK (ho := .dK (putK gs k1 v3)) e
  exact d_setItem B.u1 I (DPut.k e (by rw [r.len]; exact hl)) z2 z3 fun s' I' => ⟨_, I', _, t, m.put (p := a) (o := .dK (putW kvs k1 y)) t (.inr ⟨_, h⟩) (by intro z; cases z) ⟨_, upd_same, (r.put k1 r3).mono t⟩, q⟩
theorem oset_dT (B : Bd P w K mg base CX N sc fl k X) {a : Addr} {kvs : List (List Key × VV)} (k1 : List Key) {y : VV} {Q : Mp → Prop} (h : M a = some (.dT kvs)) (hl : kvs.length < sizeLine) (q : Q (updM M a (.dT (putW kvs k1 y)))) : OSet X (.ref a) (tW k1) y M Q := fun H v1 v2 v3 m r1 r2 r3 => fun pins s σ ov iv u I z1 z2 z3 => by
  obtain ⟨gs, e, r⟩ := m a _ h
  cases r1
  obtain ⟨b, rfl, eb⟩ := r2.tkey
  cases z1
  have t := TM.dT (ho := .dT (putK gs k1 v3)) e
  exact d_setItem B.u1 I (DPut.t e eb (by rw [r.len]; exact hl)) z2 z3 fun s' I' => ⟨_, I', _, t, m.put (p := a) (o := .dT (putW kvs k1 y)) t (.inr ⟨_, h⟩) (by intro z; cases z) ⟨_, upd_same, (r.put k1 r3).mono t⟩, q⟩
/-- {} -/
theorem we_dnew (q : ∀ p, M p = none → Q (.ref p) (updM M p (.dK []))) : WE X (.Dict [] [] pos) σ M Q := fun σ' H s m =>
  wE.of pe_dnewK fun p hp => ⟨.ref p, _, TM.fresh hp, m.put (p := p) (o := .dK []) (TM.fresh hp) (.inl hp) (by intro z; cases z) ⟨[], upd_same, .nil⟩, .ref p, q p (m.no hp)⟩
theorem we_dnewT (q : ∀ p, M p = none → Q (.ref p) (updM M p (.dT []))) : WE X (.Dict [] [] pos) σ M Q := fun σ' H s m =>
  wE.of pe_dnewT fun p hp => ⟨.ref p, _, TM.fresh hp, m.put (p := p) (o := .dT []) (TM.fresh hp) (.inl hp) (by intro z; cases z) ⟨[], upd_same, .nil⟩, .ref p, q p (m.no hp)⟩
/-- dict(d), len(d), list(d), sorted(d) -/
theorem oc_dictD {a : Addr} {kvs : List (Key × VV)} (h : DkAt M a kvs) (q : ∀ p, M p = none → Q (.ref p) (updM M p (.dK kvs))) : OC X (.type "dict") [.ref a] M Q := fun H vs m r => by
  cases r with
  | cons r1 r2 =>
    cases r2; cases r1
    obtain ⟨gs, e, rg⟩ := h.v m
    exact wCall.of call_dictD ⟨a, gs, rfl, e, fun l hl => ⟨.ref l, _, TM.fresh hl, m.put (p := l) (o := .dK kvs) (TM.fresh hl) (.inl hl) (by intro z; cases z) ⟨gs, upd_same, rg.mono (TM.fresh hl)⟩, .ref l, q l (m.no hl)⟩⟩
theorem oc_lenD {a : Addr} {kvs : List (Key × VV)} (h : DkAt M a kvs) (q : Q (.int kvs.length) M) : OC X (.builtin "len") [.ref a] M Q := fun H vs m r => fun pins s σ us I rr => by
  cases r with
  | cons r1 r2 =>
    cases r2; cases r1
    obtain ⟨gs, e, rg⟩ := h.v m
    obtain ⟨u, rfl, ru⟩ := vals1 rr
    cases ru
    exact d_len I e fun t s' I' => ⟨.int _, H, I', ⟨t, rfl⟩, .mk m (.int _) (by rw [rg.len]; exact q)⟩
theorem rvs_strs {K : PySem.W.Frag} {H : Hp} : ∀ ys : List Str, Rvs K H (ys.map V.str) (ys.map VV.str)
  | [] => .nil
  | y :: ys => .cons (.str y) (rvs_strs ys)
theorem rvs_kW {K : PySem.W.Frag} {H : Hp} : ∀ ks : List Key, Rvs K H (ks.map kV) (ks.map kW)
  | [] => .nil
  | k :: ks => .cons (rv_kW k) (rvs_kW ks)
theorem oc_listD (hc : X.calm = true) {a : Addr} {kvs : List (Key × VV)} (h : DkAt M a kvs) (q : ∀ p, M p = none → Q (.ref p) (updM M p (.lst (kvs.map fun z => kW z.1)))) : OC X (.type "list") [.ref a] M Q := fun H vs m r => by
  cases r with
  | cons r1 r2 =>
    cases r2; cases r1
    obtain ⟨gs, e, rg⟩ := h.v m
    refine wCall.of (call_listD hc) ⟨a, gs, rfl, e, fun l hl => ⟨.ref l, _, TM.fresh hl, m.putL (TM.fresh hl) (.inl hl) (ws := kvs.map fun z => kW z.1) ?_, .ref l, q l (m.no hl)⟩⟩
    have e1 : (gs.map fun z => kV z.1) = (gs.map (·.1)).map kV := by rw [List.map_map]; rfl
    have e2 : (kvs.map fun z => kW z.1) = (kvs.map (·.1)).map kW := by rw [List.map_map]; rfl
    rw [e1, e2, rg.keys]
    exact rvs_kW _
theorem oc_sortD1 (hc : X.calm = true) {a : Addr} {kvs : List (Key × VV)} {ks : List Str} (h : DkAt M a kvs) (hk : kvs.map (·.1) = ks.map Sum.inr) (hz : ks.length < 64) (q : ∀ ys p, ys.Perm ks → PyProof.Rows.sortedS ys = true → M p = none → Q (.ref p) (updM M p (.lst (ys.map .str)))) : OC X (.builtin "sorted") [.ref a] M Q := fun H vs m r => by
  cases r with
  | cons r1 r2 =>
    cases r2; cases r1
    obtain ⟨gs, e, rg⟩ := h.v m
    refine wCall.of (call_sortedD hc) ⟨a, gs, ks, rfl, e, by rw [rg.keys]; exact hk, hz, fun ys l hp hs hl => ⟨.ref l, _, TM.fresh hl, m.putL (TM.fresh hl) (.inl hl) (ws := ys.map .str) ?_, .ref l, q ys l hp hs (m.no hl)⟩⟩
    exact rvs_strs ys
/-! ### a dict while a loop walks it -/
theorem TM.unl {H : Hp} {p : Addr} {o : Obj} {u ho : HO} (h : H p = some (.frz o u)) (l : Lkd u = true) : TM H (upd H p ho) :=
  ⟨fun c ys e => by rw [upd_ne (fun z => by subst z; rw [h] at e; cases e)]; exact e,
   fun c ob u' k e => by
    rw [upd_ne (fun z => by subst z; rw [h] at e; cases e; rw [l] at k; cases k)]; exact e⟩
theorem lock_in {K : PySem.W.Frag} {H : Hp} {M : Mp} {p : Addr} {kvs : List (Key × VV)} (m : SimM K M H) (e : M p = some (.dK kvs)) : ∃ xs, H p = some (.dK xs) ∧ ∀ od, TM H (upd H p (.frz od (.dK xs))) ∧ SimM K (updM M p (.lk od xs kvs)) (upd H p (.frz od (.dK xs))) := by
  obtain ⟨xs, hx, rx⟩ := m p _ e
  refine ⟨xs, hx, fun od => ?_⟩
  have t := TM.dK (ho := .frz od (.dK xs)) hx
  exact ⟨t, m.put (p := p) (o := .lk od xs kvs) t (.inr ⟨_, e⟩) (by intro z; cases z) ⟨upd_same, rx.mono t⟩⟩
theorem lock_out {K : PySem.W.Frag} {H : Hp} {M : Mp} {p : Addr} {o : Obj} {xs : List (Key × V)} {kvs : List (Key × VV)} (m : SimM K M H) (e : M p = some (.lk o xs kvs)) : H p = some (.frz o (.dK xs)) ∧ TM H (upd H p (.dK xs)) ∧ SimM K (updM M p (.dK kvs)) (upd H p (.dK xs)) := by
  obtain ⟨hx, rx⟩ := m p _ e
  have t := TM.unl (ho := .dK xs) hx rfl
  exact ⟨hx, t, m.put (p := p) (o := .dK kvs) t (.inr ⟨_, e⟩) (by intro z; cases z) ⟨xs, upd_same, rx.mono t⟩⟩
theorem lock_inT {K : PySem.W.Frag} {H : Hp} {M : Mp} {p : Addr} {kvs : List (List Key × VV)} (m : SimM K M H) (e : M p = some (.dT kvs)) : ∃ xs, H p = some (.dT xs) ∧ ∀ od, TM H (upd H p (.frz od (.dT xs))) ∧ SimM K (updM M p (.lkT od xs kvs)) (upd H p (.frz od (.dT xs))) := by
  obtain ⟨xs, hx, rx⟩ := m p _ e
  refine ⟨xs, hx, fun od => ?_⟩
  have t := TM.dT (ho := .frz od (.dT xs)) hx
  exact ⟨t, m.put (p := p) (o := .lkT od xs kvs) t (.inr ⟨_, e⟩) (by intro z; cases z) ⟨upd_same, rx.mono t⟩⟩
theorem lock_outT {K : PySem.W.Frag} {H : Hp} {M : Mp} {p : Addr} {o : Obj} {xs : List (List Key × V)} {kvs : List (List Key × VV)} (m : SimM K M H) (e : M p = some (.lkT o xs kvs)) : H p = some (.frz o (.dT xs)) ∧ TM H (upd H p (.dT xs)) ∧ SimM K (updM M p (.dT kvs)) (upd H p (.dT xs)) := by
  obtain ⟨hx, rx⟩ := m p _ e
  have t := TM.unl (ho := .dT xs) hx rfl
  exact ⟨hx, t, m.put (p := p) (o := .dT kvs) t (.inr ⟨_, e⟩) (by intro z; cases z) ⟨xs, upd_same, rx.mono t⟩⟩
/-- the ends of a statement that runs while the dict at p is locked -/
def lkEn (p : Addr) (kvs : List (Key × VV)) (L : MO) (D : En) : En where
  nx := fun σ M => M p = some L ∧ D.nx σ (updM M p (.dK kvs))
  rt := fun w M => M p = some L ∧ D.rt w (updM M p (.dK kvs))
  bk := fun σ M => M p = some L ∧ D.bk σ (updM M p (.dK kvs))
  ct := fun σ M => M p = some L ∧ D.ct σ (updM M p (.dK kvs))
theorem ws_lock {st : Stmt} {p : Addr} {kvs : List (Key × VV)} (e : M p = some (.dK kvs)) (h : ∀ o xs, WS X st σ (updM M p (.lk o xs kvs)) (lkEn p kvs (.lk o xs kvs) D)) : WS X st σ M D := fun σ' H s m pins t I => by
  obtain ⟨xs, hx, hh⟩ := lock_in m e
  refine (ps_lock (wS.ps (X := X) (e := st))).run pins t σ' H _ I ⟨p, _, hx, trivial, fun od => ?_⟩
  obtain ⟨t1, m1⟩ := hh od
  refine (h od xs σ' _ (s.mono t1) m1).mono ?_ ?_ ?_ ?_
  · rintro σ2 H2 ⟨σ3, M3, t3, s3, m3, e3, q⟩
    obtain ⟨g1, g2, g3⟩ := lock_out m3 e3
    exact ⟨g1, σ3, _, (t1.trans t3).trans g2, s3.mono g2, g3, q⟩
  · rintro v H2 ⟨w3, M3, t3, m3, r3, e3, q⟩
    obtain ⟨g1, g2, g3⟩ := lock_out m3 e3
    exact ⟨g1, w3, _, (t1.trans t3).trans g2, g3, Rv.mono g2 _ _ r3, q⟩
  · rintro σ2 H2 ⟨σ3, M3, t3, s3, m3, e3, q⟩
    obtain ⟨g1, g2, g3⟩ := lock_out m3 e3
    exact ⟨g1, σ3, _, (t1.trans t3).trans g2, s3.mono g2, g3, q⟩
  · rintro σ2 H2 ⟨σ3, M3, t3, s3, m3, e3, q⟩
    obtain ⟨g1, g2, g3⟩ := lock_out m3 e3
    exact ⟨g1, σ3, _, (t1.trans t3).trans g2, s3.mono g2, g3, q⟩
theorem we_lock {p : Addr} {kvs : List (Key × VV)} (hp : M p = some (.dK kvs)) (h : ∀ o xs, WE X e σ (updM M p (.lk o xs kvs)) fun w M' => M' p = some (.lk o xs kvs) ∧ Q w (updM M' p (.dK kvs))) : WE X e σ M Q := fun σ' H s m pins t I => by
  obtain ⟨xs, hx, hh⟩ := lock_in m hp
  refine (pe_lock (wE.pe (X := X) (e := e))).run pins t σ' H _ I ⟨p, _, hx, trivial, fun od => ?_⟩
  obtain ⟨t1, m1⟩ := hh od
  refine (h od xs σ' _ (s.mono t1) m1).mono ?_
  rintro v H2 ⟨w3, M3, t3, m3, r3, e3, q⟩
  obtain ⟨g1, g2, g3⟩ := lock_out m3 e3
  exact ⟨g1, w3, _, (t1.trans t3).trans g2, g3, Rv.mono g2 _ _ r3, q⟩
/-! walks of a locked dict -/
def itKey (p : Addr) (L : MO) (kvs : List (Key × VV)) : It3 := ⟨kvs.length, fun i v => ∃ k w, kvs[i]? = some (k, w) ∧ v = kW k, fun M => M p = some L⟩
def itVal (p : Addr) (L : MO) (kvs : List (Key × VV)) : It3 := ⟨kvs.length, fun i v => ∃ k, kvs[i]? = some (k, v), fun M => M p = some L⟩
def itItm (p : Addr) (L : MO) (kvs : List (Key × VV)) : It3 := ⟨kvs.length, fun i v => ∃ k w, kvs[i]? = some (k, w) ∧ v = .tup [kW k, w], fun M => M p = some L⟩
variable {R : It3 → Mp → Prop}
theorem wi_keysL (h : WE X e σ M fun u M1 => ∃ p o xs kvs, u = .ref p ∧ M1 p = some (.lk o xs kvs) ∧ R (itKey p (.lk o xs kvs) kvs) M1) : WI X tg e σ M R := fun σ' H s m =>
  wI.of (pi_keys wE.pe) (h.run s m fun v H1 u M1 t1 m1 r1 s1 ⟨p, o, xs, kvs, hu, mp, q⟩ => by
    subst hu; cases r1
    obtain ⟨h1, h3⟩ := m1 p _ mp
    refine ⟨p, o, rfl, .inl ⟨xs, h1, _, M1, t1, m1, ?_, q⟩⟩
    intro i M2 H2 t2 m2 hh hi
    obtain ⟨q1, q3⟩ := m2 p _ (show M2 p = _ from hh)
    have hlen := q3.len
    change i ≤ kvs.length at hi
    by_cases hlt : i < kvs.length
    · refine .inr ⟨hlt, ⟨q1, by omega⟩, fun y H' hy => ?_⟩
      obtain ⟨rfl, k, v, hk, rfl⟩ := hy
      obtain ⟨w, hw, _⟩ := q3.at hk
      exact ⟨_, ⟨k, w, hw, rfl⟩, TM.refl, m2, rv_kW k⟩
    · exact .inl ⟨by show i = kvs.length; omega, q1, by omega⟩)
theorem wi_valsL {apos cpos : Pos} (h : WE X e σ M fun u M1 => ∃ p o xs kvs, u = .ref p ∧ M1 p = some (.lk o xs kvs) ∧ R (itVal p (.lk o xs kvs) kvs) M1) (hbase : attributeBase e "values" X.env (eval e X.env) = eval e X.env := by rfl) (hline : (apos.endLine == cpos.line) = true := by rfl) : WI X tg (.Call (.Attribute e "values" apos) [] [] cpos) σ M R := fun σ' H s m =>
  wI.of (pi_values wE.pe hbase hline) (h.run s m fun v H1 u M1 t1 m1 r1 s1 ⟨p, o, xs, kvs, hu, mp, q⟩ => by
    subst hu; cases r1
    obtain ⟨h1, h3⟩ := m1 p _ mp
    refine ⟨p, o, xs, rfl, h1, _, M1, t1, m1, ?_, q⟩
    intro i M2 H2 t2 m2 hh hi
    obtain ⟨q1, q3⟩ := m2 p _ (show M2 p = _ from hh)
    have hlen := q3.len
    change i ≤ kvs.length at hi
    by_cases hlt : i < kvs.length
    · refine .inr ⟨hlt, ⟨q1, by omega⟩, fun y H' hy => ?_⟩
      obtain ⟨rfl, k, hk⟩ := hy
      obtain ⟨w, hw, rw⟩ := q3.at hk
      exact ⟨_, ⟨k, hw⟩, TM.refl, m2, rw⟩
    · exact .inl ⟨by show i = kvs.length; omega, q1, by omega⟩)
theorem wi_itemsL {apos cpos tpos : Pos} {elts : List Expr} {kk : Nat} (h : WE X e σ M fun u M1 => ∃ p o xs kvs, u = .ref p ∧ M1 p = some (.lk o xs kvs) ∧ R (itItm p (.lk o xs kvs) kvs) M1) (hbase : attributeBase e "items" X.env (eval e X.env) = eval e X.env := by rfl) (hline : (apos.endLine == cpos.line) = true := by rfl) : WI X (.Tuple elts kk tpos) (.Call (.Attribute e "items" apos) [] [] cpos) σ M R := fun σ' H s m =>
  wI.of (pi_items wE.pe hbase hline) (h.run s m fun v H1 u M1 t1 m1 r1 s1 ⟨p, o, xs, kvs, hu, mp, q⟩ => by
    subst hu; cases r1
    obtain ⟨h1, h3⟩ := m1 p _ mp
    refine ⟨p, o, xs, rfl, h1, _, M1, t1, m1, ?_, q⟩
    intro i M2 H2 t2 m2 hh hi
    obtain ⟨q1, q3⟩ := m2 p _ (show M2 p = _ from hh)
    have hlen := q3.len
    change i ≤ kvs.length at hi
    by_cases hlt : i < kvs.length
    · refine .inr ⟨hlt, ⟨q1, by omega⟩, fun y H' hy => ?_⟩
      obtain ⟨T, k, v, hk, rfl, hT, rfl⟩ := hy
      obtain ⟨w, hw, rw⟩ := q3.at hk
      have tT : TM H2 (upd H2 T (.tup [kV k, v])) := TM.fresh hT
      exact ⟨_, ⟨k, w, hw, rfl⟩, tT, m2.alloc hT, .tup (SqT.of upd_same) (.cons (rv_kW k) (.cons (Rv.mono tT _ _ rw) .nil))⟩
    · exact .inl ⟨by show i = kvs.length; omega, q1, by omega⟩)
end
end G3

set_option Elab.async false
set_option linter.all false
set_option maxRecDepth 100000
set_option maxHeartbeats 4000000
/-! L3: instances of the text's classes; dict comprehensions -/
namespace G3
open PySem PySem.Spec L2
def putFW (f : Str) (w : VV) : List (Str × VV) → List (Str × VV)
  | [] => [(f, w)]
  | (g, x) :: r => if g = f then (g, w) :: r else (g, x) :: putFW f w r
theorem Rkv.putF {K : PySem.W.Frag} {H : Hp} {gs : List (Str × V)} {fs : List (Str × VV)} (r : Rkv K H gs fs) (f : Str) {v : V} {w : VV} (h : Rv K H v w) : Rkv K H (L2.putF f v gs) (putFW f w fs) := by
  induction r with
  | nil => exact .cons h .nil
  | @cons kk v' w' xs ys h1 h2 ih =>
    show Rkv K H (if kk = f then (kk, v) :: xs else (kk, v') :: L2.putF f v xs) (if kk = f then (kk, w) :: ys else (kk, w') :: putFW f w ys)
    by_cases c : kk = f
    · rw [if_pos c, if_pos c]; exact .cons h h2
    · rw [if_neg c, if_neg c]; exact .cons h1 ih
theorem Rkv.lookN {K : PySem.W.Frag} {H : Hp} {gs : List (Str × V)} {fs : List (Str × VV)} (r : Rkv K H gs fs) {f : Str} (h : fs.lookup f = none) : gs.lookup f = none := by
  induction r with
  | nil => rfl
  | @cons kk v w' _ ys h1 h2 ih =>
    rw [List.lookup_cons] at h ⊢
    cases z : (f == kk) with
    | true => rw [z] at h; cases h
    | false => rw [z] at h; exact ih h
/-- a method's text -/
def TxM (E : Ev) (x m : Str) (st : Stmt) (ps : List Str) : Prop := ∃ fd qual, FunD E.K m qual (defArgs st) (defBody st) (defScope st) [] [] (He.ma E.K (He.ga E.K x) m) fd ∧ Binds E.K fd ps []
/-- the method m of x keeps sp -/
def Ev.mtx (E : Ev) (k : Nat) (x m : Str) (ps : List Str) (sp : SpX) : Prop := ∃ fd, FnOk E.P E.w E.K E.mg E.base E.CX k (He.ma E.K (He.ga E.K x) m) fd ps (toSpX E.K sp) ∧ Binds E.K fd ps []
theorem TxM.mtx {E : Ev} (hX : E.xc) {x m : Str} {st : Stmt} {ps : List Str} (T : TxM E x m st ps) (N : List Str) {k : Nat} {sp : SpX} (S : FnScope N ps (defScope st)) (len : ∀ ws M Q R, sp ws M Q R → ws.length = ps.length)
    (body : ∀ X : Cx, E.bd N (defScope st) true k X → Stk X → ∀ ws M Q R, sp ws M Q R → Tk X (fun cls d _ M' => ∃ M0, LeM M0 M' ∧ R cls d M0) → WSs X (defBody st) (ws.map some ++ List.replicate (N.length - ws.length) none) M
      { nx := fun _ M' => ∃ M0, LeM M0 M' ∧ Q .non M0, rt := fun u M' => ∃ M0, LeM M0 M' ∧ Q u M0 }) : E.mtx (k + 1) x m ps sp := by
  obtain ⟨fd, qual, F, hb⟩ := T
  exact ⟨fd, fnx_of hX F N S len body, hb⟩
theorem mtx_imp {E : Ev} {k : Nat} {x m : Str} {ps : List Str} {sp sp' : SpX} (D : E.mtx k x m ps sp) (h : ∀ ws M Q R, sp' ws M Q R → sp ws M Q R) : E.mtx k x m ps sp' := by
  obtain ⟨fd, h1, h2⟩ := D
  exact ⟨fd, h1.imp fun vs H Q Ex ⟨ws, M, Q3, R, a, b, c, d⟩ => ⟨ws, M, Q3, R, a, b, h _ _ _ _ c, d⟩, h2⟩
theorem txm_mk {E : Ev} {fa : List He.Fa} {fn : List He.DefD} (c : He.SaysD fa fn E.K) (i : Nat) {x m qual : Str} {st : Stmt} {ps : List Str} (hd : fn[i]? = some (dDm x m st qual))
    (hb : ∀ (kV doc pm : Value) (an : Option Addr) (cdv ct : Value) (us : List Value), us.length = ps.length → bindArgs (PySem.W.fnOf m qual (defArgs st) (defBody st) (defScope st) .none kV doc pm an cdv ct) ⟨us, []⟩ = pure (ps.zip us)) : TxM E x m st ps := by
  obtain ⟨fd, F⟩ := c.def_ i hd
  exact ⟨fd, qual, F, FunD.binds F hb⟩
section
variable {X : Cx} {a b c e o tg : Expr} {es : List Expr} {σ : St3} {M : Mp} {Q : VQ} {D : En} {pos : Pos} {x : Str} {i : Nat} {R : XQ3}
variable {E : Ev} {N : List Str} {sc : Scope} {fl : Bool} {k : Nat}
/-- e.f of an instance -/
theorem we_fld {f : Str} (B : E.bd N sc fl k X) (h : WE X e σ M fun u M1 => ∃ a C fs w, u = .ref a ∧ M1 a = some (.ins C fs) ∧ Cls E.K C ∧ NoAttr E.K C f ∧ fs.lookup f = some w ∧ Q w M1)
    (hb : attributeBase e f X.env (eval e X.env) = eval e X.env := by rfl) : WE X (.Attribute e f pos) σ M Q := fun σ' H s m =>
  wE.of (pe_fld wE.pe hb) (h.run s m fun v H1 u M1 t1 m1 r1 s1 ⟨a, C, fs, w, eu, ma, c, n, l, q⟩ => by
    subst eu; cases r1
    obtain ⟨dx, gs, e1, e2⟩ := m1 _ _ ma
    obtain ⟨v, l1, l2⟩ := e2.look l
    exact ⟨a, C, dx, gs, v, rfl, e1, by rw [B.eK]; exact c, by rw [B.eK]; exact n, l1, w, M1, t1, m1, l2, q⟩)
/-- o.f = e of an instance -/
theorem ws_fld {f : Str} {p' : Pos} (B : E.bd N sc fl k X) (h : WE X e σ M fun y M1 => WE X o σ M1 fun u M2 => ∃ a C fs, u = .ref a ∧ M2 a = some (.ins C fs) ∧ Cls E.K C ∧ NoAttr E.K C f ∧ fs.length < 1000 ∧ D.nx σ (updM M2 a (.ins C (putFW f y fs))))
    (hs : swapsWith e (some (.Attribute o f p')) pos.line X.env = pure false := by rfl) : WS X (.Assign [.Attribute o f p'] e pos) σ M D := fun σ' H s m =>
  wS.of (ps_fld wE.pe wE.pe hs) (h.run s m fun y H1 y' M1 t1 m1 r1 s1 q1 => q1.run s1 m1 fun u H2 u' M2 t2 m2 r2 s2 q2 => by
    obtain ⟨a, C, fs, rfl, ma, c, n, hl, q⟩ := q2
    cases r2
    obtain ⟨dx, gs, e1, e2⟩ := m2 _ _ ma
    have t := TM.ins (ho := .ins C dx (L2.putF f y gs)) e1
    exact ⟨a, C, dx, gs, rfl, e1, by rw [B.eK]; exact c, by rw [B.eK]; exact n, by rw [e2.len]; exact hl, σ, _, (t1.trans t2).trans t, s2.mono t, m2.put (p := a) (o := .ins C (putFW f y' fs)) t (.inr ⟨_, ma⟩) (by intro z; cases z) ⟨dx, _, upd_same, (e2.putF f (Rv.mono t2 _ _ r1)).mono t⟩, q⟩)
/-- o.m(..), where it may raise -/
theorem we_methX {k' : Nat} {x m : Str} {ps : List Str} {sp : SpX} {apos : Pos} {pl : Sem Bool} (hX : E.xc) (B : E.bd N sc fl k X) (c : Cls E.K (He.ga E.K x)) (hm : Meth E.K (He.ga E.K x) m (He.ma E.K (He.ga E.K x) m)) (F : E.mtx k' x m ps sp) (hk : k' ≤ k) (tk : Tk X R)
    (h : WE X o σ M fun u M1 => ∃ a fs, u = .ref a ∧ M1 a = some (.ins (He.ga E.K x) fs) ∧ fs.lookup m = none ∧ WA X (e :: es) σ M1 fun us M2 => sp (.ref a :: us) M2 Q (fun cls d M' => R cls d σ M'))
    (hst : starEach (e :: es) X.env = (false, eval e X.env) :: starEach es X.env := by rfl) (hpl : (backTo pos (starEach es X.env)).any (·.1) = false := by rfl)
    (ht : eval (.Call (.Attribute o m apos) (e :: es) [] pos) X.env = (do
      let ov ← eval o X.env
      standAt apos.atName
      let (f, first) ← holding [ov] (getMethod ov m pl)
      callWith pos f first (backTo pos (starEach (e :: es) X.env)) (backToKw pos (keywordEach [] X.env))) := by rfl) : WE X (.Call (.Attribute o m apos) (e :: es) [] pos) σ M Q := by
  obtain ⟨P, w, K, mg, base, CX, hp⟩ := E
  have hX' : CX = L2.CX P w := hX
  subst hX'
  obtain ⟨fd, F1, hb⟩ := F
  obtain ⟨rfl, rfl, rfl, rfl, rfl, rfl, rfl, _, room, pas, _⟩ := B
  obtain ⟨W, tW, hW⟩ := tk
  intro σ' H s mm pins st I
  have t0 := TM.of_inv I
  refine PySem.W.methodCall_KW (pl := pl) (thn (h σ' H s mm pins st I) fun u s1 ⟨xv, H1, I1, rx, u', M1, t1, m1, r1, a, fs, eu, ma, ml, q1⟩ => ?_) ht
  subst eu; cases r1
  obtain rfl : u = Value.ref a := rx
  obtain ⟨dx, gs, e1, e2⟩ := m1 _ _ ma
  have ln := e2.lookN ml
  refine getmeth_ok I1 e1 c hm ln ?_
  refine PySem.W.callWith_K (first := [.ref a]) (h₀ := X.base) I1.ok.mod.kin hm.kp (thn ((wA.pa (X := X) (e := e :: es)).run pos pins s1 σ' H1 _ I1 (q1 σ' H1 (s.mono t1) m1)) fun us s2 ⟨vs, H2, I2, r, ws, M2, t2, m2, r2, q2⟩ => ⟨I2.kIn, ?_⟩) hst hpl
  exact run_fnS (E := fun σ cls d H => W cls d σ H) (us := .ref a :: us) (vs := .ref a :: vs) F1 (room.mono hk) hb (passAt tW σ') I2 (.cons rfl r) ⟨.ref a :: ws, M2, Q, _, m2, .cons (.ref a) r2, q2, fun u M' v H' q t3 m3 r3 => ⟨u, M', (t1.trans t2).trans t3, m3, r3, q⟩,
    fun cls d M' H' q t3 m3 => hW cls d σ' σ H' M' (t0.trans ((t1.trans t2).trans t3)) (s.mono ((t1.trans t2).trans t3)) m3 q⟩
/-- o.m() -/
theorem we_methX0 {k' : Nat} {x m : Str} {ps : List Str} {sp : SpX} {apos : Pos} {pl : Sem Bool} (hX : E.xc) (B : E.bd N sc fl k X) (c : Cls E.K (He.ga E.K x)) (hm : Meth E.K (He.ga E.K x) m (He.ma E.K (He.ga E.K x) m)) (F : E.mtx k' x m ps sp) (hk : k' ≤ k) (tk : Tk X R)
    (h : WE X o σ M fun u M1 => ∃ a fs, u = .ref a ∧ M1 a = some (.ins (He.ga E.K x) fs) ∧ fs.lookup m = none ∧ sp [.ref a] M1 Q (fun cls d M' => R cls d σ M'))
    (ht : eval (.Call (.Attribute o m apos) [] [] pos) X.env = (do
      let ov ← eval o X.env
      standAt apos.atName
      let (f, first) ← holding [ov] (getMethod ov m pl)
      callWith pos f first (backTo pos (starEach [] X.env)) (backToKw pos (keywordEach [] X.env))) := by rfl) : WE X (.Call (.Attribute o m apos) [] [] pos) σ M Q := by
  obtain ⟨P, w, K, mg, base, CX, hp⟩ := E
  have hX' : CX = L2.CX P w := hX
  subst hX'
  obtain ⟨fd, F1, hb⟩ := F
  obtain ⟨rfl, rfl, rfl, rfl, rfl, rfl, rfl, _, room, pas, _⟩ := B
  obtain ⟨W, tW, hW⟩ := tk
  intro σ' H s mm pins st I
  have t0 := TM.of_inv I
  refine PySem.W.methodCall_KW (pl := pl) (thn (h σ' H s mm pins st I) fun u s1 ⟨xv, H1, I1, rx, u', M1, t1, m1, r1, a, fs, eu, ma, ml, q1⟩ => ?_) ht
  subst eu; cases r1
  obtain rfl : u = Value.ref a := rx
  obtain ⟨dx, gs, e1, e2⟩ := m1 _ _ ma
  refine getmeth_ok I1 e1 c hm (e2.lookN ml) ?_
  refine PySem.W.callWith_K0 (first := [.ref a]) I1.kIn hm.kp ?_
  exact run_fnS (E := fun σ cls d H => W cls d σ H) (us := [.ref a]) (vs := [.ref a]) F1 (room.mono hk) hb (passAt tW σ') I1 (.cons rfl .nil) ⟨[.ref a], M1, Q, _, m1, .cons (.ref a) .nil, q1, fun u M' v H' q t3 m3 r3 => ⟨u, M', t1.trans t3, m3, r3, q⟩,
    fun cls d M' H' q t3 m3 => hW cls d σ' σ H' M' (t0.trans (t1.trans t3)) (s.mono (t1.trans t3)) m3 q⟩
/-- .. where nothing is raised -/
theorem we_meth {k' : Nat} {x m : Str} {ps : List Str} {sp : SpX} {apos : Pos} {pl : Sem Bool} (B : E.bd N sc fl k X) (c : Cls E.K (He.ga E.K x)) (hm : Meth E.K (He.ga E.K x) m (He.ma E.K (He.ga E.K x) m)) (F : E.mtx k' x m ps sp) (hk : k' ≤ k)
    (h : WE X o σ M fun u M1 => ∃ a fs, u = .ref a ∧ M1 a = some (.ins (He.ga E.K x) fs) ∧ fs.lookup m = none ∧ WA X (e :: es) σ M1 fun us M2 => sp (.ref a :: us) M2 Q noX)
    (hst : starEach (e :: es) X.env = (false, eval e X.env) :: starEach es X.env := by rfl) (hpl : (backTo pos (starEach es X.env)).any (·.1) = false := by rfl)
    (ht : eval (.Call (.Attribute o m apos) (e :: es) [] pos) X.env = (do
      let ov ← eval o X.env
      standAt apos.atName
      let (f, first) ← holding [ov] (getMethod ov m pl)
      callWith pos f first (backTo pos (starEach (e :: es) X.env)) (backToKw pos (keywordEach [] X.env))) := by rfl) : WE X (.Call (.Attribute o m apos) (e :: es) [] pos) σ M Q := by
  obtain ⟨P, w, K, mg, base, CX, hp⟩ := E
  obtain ⟨fd, F1, hb⟩ := F
  obtain ⟨rfl, rfl, rfl, rfl, rfl, rfl, rfl, _, room, pas, _⟩ := B
  exact fun σ' H s mm => wE.of (pe_meth (E := E0) (pl := pl) wE.pe c hm F1 (room.mono hk) hb .nil (pas X rfl rfl) wA.pa hst hpl ht) (h.run s mm fun v H1 u M1 t1 m1 r1 s1 ⟨a, fs, eu, ma, ml, q1⟩ => by
    subst eu; cases r1
    obtain ⟨dx, gs, e1, e2⟩ := m1 _ _ ma
    exact ⟨a, dx, gs, rfl, e1, e2.lookN ml, q1.run s1 m1 fun vs H2 ws M2 t2 m2 r2 s2 q2 => ⟨.ref a :: ws, M2, Q, noX, m2, by rw [List.append_nil]; exact .cons (.ref a) r2, q2, fun u M' v H' q t3 m3 r3 => ⟨u, M', (t1.trans t2).trans t3, m3, r3, q⟩, fun _ _ _ _ z => z.elim⟩⟩)
theorem we_meth0 {k' : Nat} {x m : Str} {ps : List Str} {sp : SpX} {apos : Pos} {pl : Sem Bool} (B : E.bd N sc fl k X) (c : Cls E.K (He.ga E.K x)) (hm : Meth E.K (He.ga E.K x) m (He.ma E.K (He.ga E.K x) m)) (F : E.mtx k' x m ps sp) (hk : k' ≤ k)
    (h : WE X o σ M fun u M1 => ∃ a fs, u = .ref a ∧ M1 a = some (.ins (He.ga E.K x) fs) ∧ fs.lookup m = none ∧ sp [.ref a] M1 Q noX)
    (ht : eval (.Call (.Attribute o m apos) [] [] pos) X.env = (do
      let ov ← eval o X.env
      standAt apos.atName
      let (f, first) ← holding [ov] (getMethod ov m pl)
      callWith pos f first (backTo pos (starEach [] X.env)) (backToKw pos (keywordEach [] X.env))) := by rfl) : WE X (.Call (.Attribute o m apos) [] [] pos) σ M Q := by
  obtain ⟨P, w, K, mg, base, CX, hp⟩ := E
  obtain ⟨fd, F1, hb⟩ := F
  obtain ⟨rfl, rfl, rfl, rfl, rfl, rfl, rfl, _, room, pas, _⟩ := B
  exact fun σ' H s mm => wE.of (pe_meth0 (E := E0) (pl := pl) wE.pe c hm F1 (room.mono hk) hb .nil (pas X rfl rfl) ht) (h.run s mm fun v H1 u M1 t1 m1 r1 s1 ⟨a, fs, eu, ma, ml, q1⟩ => by
    subst eu; cases r1
    obtain ⟨dx, gs, e1, e2⟩ := m1 _ _ ma
    exact ⟨a, dx, gs, rfl, e1, e2.lookN ml, ⟨[.ref a], M1, Q, noX, m1, .cons (.ref a) .nil, q1, fun u M' v H' q t3 m3 r3 => ⟨u, M', t1.trans t3, m3, r3, q⟩, fun _ _ _ _ z => z.elim⟩⟩)
/-- a new instance, its dict behind it -/
theorem sim_new {K : PySem.W.Frag} {H1 : Hp} {M1 : Mp} {a dx C : Addr} (m1 : SimM K M1 H1) (ha : H1 a = none) (hd : H1 dx = none) (hne : dx ≠ a) : TM H1 (upd (upd H1 dx (.own a)) a (.ins C dx [])) ∧ SimM K (updM M1 a (.ins C [])) (upd (upd H1 dx (.own a)) a (.ins C dx [])) := by
  have t1 : TM H1 (upd H1 dx (.own a)) := TM.fresh hd
  have ha' : upd H1 dx (.own a) a = none := by rw [upd_ne hne.symm]; exact ha
  have t2 : TM (upd H1 dx (.own a)) (upd (upd H1 dx (.own a)) a (.ins C dx [])) := TM.fresh ha'
  exact ⟨t1.trans t2, (m1.alloc hd).put (p := a) (o := .ins C []) t2 (.inl ha') (by intro z; cases z) ⟨dx, [], upd_same, .nil⟩⟩
/-- C(..) of a class of the text, nothing raised -/
theorem we_make {k' : Nat} {ps : List Str} {sp : SpX} {p : Pos} (B : E.bd N sc fl k X) (Mk' : Mk E.K (He.ga E.K x) (He.ma E.K (He.ga E.K x) "__init__")) (F : E.mtx k' x "__init__" ps sp) (hk : k' + 1 ≤ k) (hg : sc.names.lookup x = some .globalImplicit) (hmg : E.mg x = some (.ref (He.ga E.K x)))
    (h : WA X (e :: es) σ M fun us M1 => ∀ a, M1 a = none → sp (.ref a :: us) (updM M1 a (.ins (He.ga E.K x) [])) (fun u M2 => u = .non ∧ Q (.ref a) M2) noX)
    (hdb : (x == ("__debug__" : Str)) = false := by decide) (he : starEach (e :: es) X.env = (false, eval e X.env) :: starEach es X.env := by rfl) (hpl : (backTo pos (starEach es X.env)).any (·.1) = false := by rfl) : WE X (.Call (.Name x p) (e :: es) [] pos) σ M Q := by
  obtain ⟨P, w, K, mg, base, CX, hp⟩ := E
  obtain ⟨fd, F1, hb⟩ := F
  obtain ⟨rfl, rfl, rfl, rfl, rfl, rfl, rfl, _, room, pas, _⟩ := B
  exact fun σ' H s mm => wE.of (pe_make (E := E0) Mk' F1 (room.mono hk) hg hmg hb .nil (pas X rfl rfl) wA.pa hdb he hpl) (h.run s mm fun vs H1 us M1 t1 m1 r1 s1 q1 => fun a dx ha hd hne => by
    obtain ⟨t2, m2⟩ := sim_new (C := He.ga X.K x) m1 ha hd hne
    exact ⟨.ref a :: us, _, _, noX, m2, by rw [List.append_nil]; exact .cons (.ref a) (Rvs.mono t2 _ _ r1), q1 a (m1.no ha), fun u M' v H' ⟨eu, q⟩ t3 m3 r3 => by subst eu; cases r3; exact ⟨rfl, .ref a, M', (t1.trans t2).trans t3, m3, .ref a, q⟩, fun _ _ _ _ z => z.elim⟩)
end
/-! ### dict comprehensions -/
section
variable {P : Program} {w : World} {K : PySem.W.Frag} {mg : Str → Option Value} {base : Heap} {CX : CXT} {N : List Str} {sc scope : Scope} {fl : Bool} {k : Nat}
variable {X : Cx} {kx vx tg e c : Expr} {ifs : List Expr} {σ : St3} {M : Mp} {Q : VQ} {pos : Pos} {g : TG} {sel : VV → List VV → Prop}
def CompD (P : Program) (w : World) (K : PySem.W.Frag) (mg : Str → Option Value) (base : Heap) (CX : CXT) (N : List Str) (sc' : Scope) (k : Nat) (kx vx : Expr) (ifs : List Expr) (own : List Nat) (sel : VV → List VV → Prop) (Q : VQ) (it : It3) (σ : St3) (M : Mp) : Prop := ∀ D, M D = none → ∃ Pv : Nat → Mp → Prop, Pv 0 (updM M D (.dK [])) ∧ (∀ j M, j ≤ it.n → Pv j M → it.hold M) ∧
  (∀ j u M, j < it.n → it.item j u → Pv j M → ∃ us, sel u us ∧ ∀ Y : Cx, Bd P w K mg base CX N sc' false k Y →
    let go : Mp → Prop := fun M1 => ∀ Y' : Cx, Bd P w K mg base CX N sc' false k Y' → WE Y' kx (putA (wipeA σ own) own us) M1 fun y M2 => ∀ Y2 : Cx, Bd P w K mg base CX N sc' false k Y2 → WE Y2 vx (putA (wipeA σ own) own us) M2 fun z M3 => ∃ kk kvs, y = kW kk ∧ M3 D = some (.dK kvs) ∧ kvs.length < sizeLine ∧ Pv (j + 1) (updM M3 D (.dK (putW kvs kk z)))
    match ifs with
    | [] => go M
    | [c] => WT Y c (putA (wipeA σ own) own us) M fun t M1 => if t = true then go M1 else Pv (j + 1) M1
    | _ => False) ∧ ∀ M, Pv it.n M → Q (.ref D) M
theorem dcI_read (B : Bd P w K mg base CX N sc fl k X) {own : List Nat} (ct : CTg K g own sel) (h : WI X tg e σ M fun it M1 => CompD P w K mg base CX N (scBlk scope sc) k kx vx ifs own sel Q it σ M1)
    {σ' : St} {H : Hp} (s : Slots X.K H σ' σ) (m : SimM X.K M H) {Qv : VK} (hQ : ∀ v H', PoE X.K H Q v H' → Qv v H') : tDc (wI X tg e) g (ttI X scope ifs) (teB X scope kx) (teB X scope vx) own σ' H Qv := by
  refine (h σ' H s m).mono fun J H1 ⟨it, M1, t1, m1, goes, q1⟩ => ?_
  have s1 := s.mono t1
  intro D hD
  obtain ⟨Pv, p0, ph, ps, pe⟩ := q1 D (m1.no hD)
  have tD : TM H1 (upd H1 D (.dK [])) := TM.fresh hD
  refine ⟨fun j n H2 => n = it.n - j ∧ j ≤ it.n ∧ ∃ M2, TM H1 H2 ∧ SimM X.K M2 H2 ∧ Pv j M2, ⟨_, rfl, Nat.zero_le _, _, tD, m1.put (p := D) (o := .dK []) tD (.inl hD) (by intro z; cases z) ⟨[], upd_same, .nil⟩, p0⟩, ?_⟩
  rintro j n H2 ⟨rfl, hj, M2, t2, m2, p2⟩
  rcases goes j M2 H2 t2 m2 (ph j M2 hj p2) hj with ⟨ej, st⟩ | ⟨hlt, hgo, hy⟩
  · subst ej
    exact .inl ⟨st, hQ _ _ ⟨.ref D, M2, t1.trans t2, m2, .ref D, pe M2 p2⟩⟩
  · refine .inr ⟨hgo, fun H' => ∃ M', TM H1 H' ∧ SimM X.K M' H' ∧ Pv (j + 1) M', fun H' z => ⟨_, by omega, rfl, hlt, z⟩, fun y H' hy' => ?_⟩
    obtain ⟨u, hu, tT, m3, ru⟩ := hy y H' hy'
    obtain ⟨us, hs, hb⟩ := ps j u M2 hlt hu p2
    have hK := B.eK
    refine (show CTg X.K g own sel by rw [hK]; exact ct).run _ H' y u us _ ru hs fun vs rv => ⟨by rw [wipe_eq, wipe_eq, wipe_put], ?_⟩
    rw [wipe_eq]
    have s2 : Slots X.K H' (putA (wipeA σ' own) own vs) (putA (wipeA σ own) own us) := Slots.putA own us ((s1.mono (t2.trans tT)).wipe own) rv
    have run : ∀ {M4 : Mp} {H4 : Hp}, TM H' H4 → SimM X.K M4 H4 → (∀ Y' : Cx, Bd P w K mg base CX N (scBlk scope sc) false k Y' → WE Y' kx (putA (wipeA σ own) own us) M4 fun y M2 => ∀ Y2 : Cx, Bd P w K mg base CX N (scBlk scope sc) false k Y2 → WE Y2 vx (putA (wipeA σ own) own us) M2 fun z M3 => ∃ kk kvs, y = kW kk ∧ M3 D = some (.dK kvs) ∧ kvs.length < sizeLine ∧ Pv (j + 1) (updM M3 D (.dK (putW kvs kk z)))) →
        teB X scope kx (putA (wipeA σ' own) own vs) H4 fun y H5 => teB X scope vx (putA (wipeA σ' own) own vs) H5 fun z H6 => ∃ kvs kk, y = kV kk ∧ H6 D = some (.dK kvs) ∧ kvs.length < sizeLine ∧ ∃ M', TM H1 (upd H6 D (.dK (putK kvs kk z))) ∧ SimM X.K M' (upd H6 D (.dK (putK kvs kk z))) ∧ Pv (j + 1) M' := by
      intro M4 H4 t4 m4 hh s0 H0 C cl fp
      have Y' := B.blk s0 H0 scope C cl fp
      rw [B.rel] at Y'
      refine (hh _ Y' _ H4 (s2.mono t4) m4).mono fun y3 H5 ⟨w3, M5, t5, m5, r5, hh2⟩ => ?_
      intro s0' H0' C' cl' fp'
      have Y2 := B.blk s0' H0' scope C' cl' fp'
      rw [B.rel] at Y2
      refine (hh2 _ Y2 _ H5 ((s2.mono t4).mono t5) m5).mono fun y4 H6 ⟨w4, M6, t6, m6, r6, kk, kvs, ek, e6, l6, p6⟩ => ?_
      subst ek
      obtain ⟨gs, g1, g2⟩ := m6 _ _ e6
      have tp := TM.dK (ho := .dK (putK gs kk y4)) g1
      exact ⟨gs, kk, Rv.key r5, g1, by rw [g2.len]; exact l6, _, ((((t2.trans tT).trans t4).trans t5).trans t6).trans tp, m6.put (p := D) (o := .dK (putW kvs kk w4)) tp (.inr ⟨_, e6⟩) (by intro z; cases z) ⟨_, upd_same, (g2.put kk r6).mono tp⟩, p6⟩
    have Y0 := B.blk X.s_0 H' scope 0 [] []
    rw [B.rel] at Y0
    match ifs, hb with
    | [], hb =>
      have z := run TM.refl m3 (hb _ Y0)
      simp only [ttI, tYes, if_true]
      exact z
    | [c], hb =>
      show ∀ s0 H0 C cl fp, wT (X.blk s0 H0 scope (compEnvC scope cl C X.env) fp) c _ _ _
      intro s0 H0 C cl fp
      have Y := B.blk s0 H0 scope C cl fp
      rw [B.rel] at Y
      refine WT.run (hb _ Y) s2 m3 fun b H3 M3 t3 m4 s3 q3 => ?_
      cases b with
      | false => rw [if_neg Bool.false_ne_true] at q3 ⊢; exact ⟨M3, (t2.trans tT).trans t3, m4, q3⟩
      | true =>
        rw [if_pos rfl] at q3 ⊢
        exact run t3 m4 q3
    | _ :: _ :: _, hb => exact (hb _ Y0).elim
theorem we_dc (B : Bd P w K mg base CX N sc fl k X) (own : List (Str × Nat)) (hok : blkC N sc scope own = true) (hif : ifs.length ≤ 1)
    (hg : ∀ (s0 : Shared) (H0 : Hp) (C : Addr) (cl : List (Str × Addr)) (fp : List Addr), PG (X.blk s0 H0 scope (compEnvC scope cl C X.env) fp) tg g) (ct : CTg K g (own.map (·.2)) sel)
    (h : WI X tg e σ M fun it M1 => CompD P w K mg base CX N (scBlk scope sc) k kx vx ifs (own.map (·.2)) sel Q it σ M1)
    (hs : ∀ x, foldedSetIterable e X.env x = pure x := by intro _; rfl) : WE X (.DictComp kx vx [⟨tg, e, ifs, 0⟩] scope pos) σ M Q := fun σ' H s m => by
  have ht : ∀ (s0 : Shared) (H0 : Hp) (C : Addr) (cl : List (Str × Addr)) (fp : List Addr), PTs (X.blk s0 H0 scope (compEnvC scope cl C X.env) fp) ifs (ttI X scope ifs) := fun s0 H0 C cl fp => by
    match ifs, hif with
    | [], _ => exact pts_nil
    | [c], _ => exact B.ptB s0 H0 C cl fp
    | _ :: _ :: _, hif => exact absurd hif (by simp)
  exact wE.of (pe_dc (own := own) (tt := ttI X scope ifs) (g := g) (tk := teB X scope kx) (tv := teB X scope vx) B.calm (by rw [B.eN]; exact B.nd) wI.pi (by rw [B.eN, B.esc]; exact blkOk_by hok)
    hg ht (fun s0 H0 C cl fp => ⟨fun pins s σ H R I h => h s0 H0 C cl fp pins s I⟩) (fun s0 H0 C cl fp => ⟨fun pins s σ H R I h => h s0 H0 C cl fp pins s I⟩) hs) (dcI_read B ct h s m fun _ _ z => z)
/-- one key, one value for each -/
def foldW {κ : Type} [DecidableEq κ] (ps : List (κ × VV)) (kvs : List (κ × VV)) : List (κ × VV) := ps.foldl (fun acc p => putW acc p.1 p.2) kvs
theorem putW_len {κ : Type} [DecidableEq κ] (kvs : List (κ × VV)) (k : κ) (w : VV) : (putW kvs k w).length ≤ kvs.length + 1 := by
  unfold putW
  split
  · rw [List.length_map]; omega
  · simp
theorem foldW_len {κ : Type} [DecidableEq κ] : ∀ (ps kvs : List (κ × VV)), (foldW ps kvs).length ≤ kvs.length + ps.length
  | [], kvs => by simp [foldW]
  | p :: ps, kvs => by
    have h1 := foldW_len ps (putW kvs p.1 p.2)
    have h2 := putW_len kvs p.1 p.2
    show (foldW ps (putW kvs p.1 p.2)).length ≤ _
    simp only [List.length_cons]
    omega
theorem compD_map {α : Type} {own : List Nat} {it : It3} {R : VQ} {sc' : Scope} (xs : List α) {Pz : α → VV → Prop} (hi : Itm it M xs Pz) (kf : α → Key) (f : α → VV)
    (he : ∀ z u M', z ∈ xs → Pz z u → LeM M M' → ∃ us, sel u us ∧ ∀ Y : Cx, Bd P w K mg base CX N sc' false k Y → WE Y kx (putA (wipeA σ own) own us) M' fun y M2 => y = kW (kf z) ∧ LeM M' M2 ∧ ∀ Y2 : Cx, Bd P w K mg base CX N sc' false k Y2 → WE Y2 vx (putA (wipeA σ own) own us) M2 fun v M3 => v = f z ∧ LeM M2 M3)
    (q : ∀ D, M D = none → ∀ M', LeM (updM M D (.dK (foldW (xs.map fun z => (kf z, f z)) []))) M' → R (.ref D) M') : CompD P w K mg base CX N sc' k kx vx [] own sel R it σ M := fun D hD => by
  obtain ⟨hn, hitem, hhold, hz⟩ := hi
  refine ⟨fun j M' => LeM (updM M D (.dK (foldW ((xs.take j).map fun z => (kf z, f z)) []))) M', LeM.refl, fun j M' _ l => hhold _ ((LeM.new hD).trans l), ?_, ?_⟩
  · rintro j u M' hj hu l
    obtain ⟨z, hz', pz⟩ := hitem j u hj hu
    obtain ⟨us, hs, hb⟩ := he z u M' (List.mem_of_getElem? hz') pz ((LeM.new hD).trans l)
    refine ⟨us, hs, fun Y B Y' B' => (hb Y' B').mono fun y M2 ⟨ey, l2, hv⟩ => fun Y2 B2 => (hv Y2 B2).mono fun v M3 ⟨ev, l3⟩ => ?_⟩
    subst ev
    refine ⟨kf z, _, ey, l3 _ _ (l2 _ _ (l _ _ updM_same)), ?_, ?_⟩
    · have := foldW_len ((xs.take j).map fun z => (kf z, f z)) []
      rw [List.length_map, List.length_take, List.length_nil] at this
      omega
    · have e : foldW ((xs.take (j + 1)).map fun z => (kf z, f z)) [] = putW (foldW ((xs.take j).map fun z => (kf z, f z)) []) (kf z) (f z) := by
        unfold foldW
        rw [List.take_add_one, hz']
        simp
      show LeM (updM M D (.dK (foldW ((xs.take (j + 1)).map fun z => (kf z, f z)) []))) _
      rw [e]
      have l4 := LeM.upd (p := D) (o := .dK (putW (foldW ((xs.take j).map fun z => (kf z, f z)) []) (kf z) (f z))) ((l.trans l2).trans l3)
      rw [updM_updM] at l4
      exact l4
  · rintro M' l
    rw [hn, List.take_length] at l
    exact q D hD M' l
theorem itm_key {a : Addr} {L : MO} {kvs : List (Key × VV)} (hl : M a = some L) (hz : kvs.length ≤ sizeLine) : Itm (itKey a L kvs) M kvs (fun z y => y = kW z.1) :=
  ⟨rfl, fun j u _ ⟨k, w, e, eu⟩ => ⟨_, e, eu⟩, fun M' l => l _ _ hl, hz⟩
theorem itm_val {a : Addr} {L : MO} {kvs : List (Key × VV)} (hl : M a = some L) (hz : kvs.length ≤ sizeLine) : Itm (itVal a L kvs) M kvs (fun z y => y = z.2) :=
  ⟨rfl, fun j u _ ⟨k, e⟩ => ⟨_, e, rfl⟩, fun M' l => l _ _ hl, hz⟩
theorem itm_itm {a : Addr} {L : MO} {kvs : List (Key × VV)} (hl : M a = some L) (hz : kvs.length ≤ sizeLine) : Itm (itItm a L kvs) M kvs (fun z y => y = .tup [kW z.1, z.2]) :=
  ⟨rfl, fun j u _ ⟨k, w, e, eu⟩ => ⟨_, e, eu⟩, fun M' l => l _ _ hl, hz⟩
/-- x, (y, z) -/
theorem pgI12 {x y z : Str} {i j l : Nat} (B : Bd P w K mg base CX N sc fl k X) {px py pz pt pu : Pos} {k1 k2 : Nat} (hi : At N i x) (hx : (scBlk scope sc).names.lookup x = some .local) (hj : At N j y) (hy : (scBlk scope sc).names.lookup y = some .local) (hl : At N l z) (hz : (scBlk scope sc).names.lookup z = some .local) :
    ∀ (s0 : Shared) (H0 : Hp) (C : Addr) (cl : List (Str × Addr)) (fp : List Addr), PG (X.blk s0 H0 scope (compEnvC scope cl C X.env) fp) (.Tuple [.Name x px, .Tuple [.Name y py, .Name z pz] k1 pt] k2 pu) (gTup K 2 (gCons (gName i) (gCons (gTup K 2 (gCons (gName j) (g1 l))) gNil))) := fun s0 H0 C cl fp => by
  have z1 := pg_tup (X := X.blk s0 H0 scope (compEnvC scope cl C X.env) fp) (pos := pt) (k := k1) B.calm (pgs_cons (B.pgB (px := py) hj hy s0 H0 C cl fp) (pgs_cons (B.pgB (px := pz) hl hz s0 H0 C cl fp) pgs_nil)) rfl rfl
  have z2 := pg_tup (X := X.blk s0 H0 scope (compEnvC scope cl C X.env) fp) (pos := pu) (k := k2) B.calm (pgs_cons (B.pgB (px := px) hi hx s0 H0 C cl fp) (pgs_cons z1 pgs_nil)) rfl rfl
  have e : (X.blk s0 H0 scope (compEnvC scope cl C X.env) fp).K = K := B.eK
  rw [e] at z2
  exact z2
theorem ctg12 {K : PySem.W.Frag} {i j l : Nat} : CTg K (gTup K 2 (gCons (gName i) (gCons (gTup K 2 (gCons (gName j) (g1 l))) gNil))) [i, j, l] (fun w us => ∃ a b c, w = .tup [a, .tup [b, c]] ∧ us = [a, b, c]) := ⟨fun σ' H x w us Z r e h =>
  (ctg_tup (n := 2) (ctgs_n (i := i) (ctgs_cons (ctg2 (i := j) (j := l)) (fun w us e => by obtain ⟨a, b, _, rfl⟩ := e; rfl) ctgs_nil))).run σ' H x w us Z r (by
    obtain ⟨a, b, c, rfl, rfl⟩ := e
    exact ⟨_, rfl, rfl, a, _, _, rfl, rfl, .tup [b, c], [], [b, c], [], rfl, rfl, ⟨b, c, rfl, rfl⟩, rfl, rfl⟩) h⟩
end
end G3

set_option Elab.async false
set_option linter.all false
set_option maxRecDepth 100000
set_option maxHeartbeats 4000000
/-! L3: several except clauses, with and without names -/
namespace G3
open PySem PySem.Spec L2
/-- a clause: its class, the slot of its name, its suite's reading -/
structure Cls1 where
  c : Value
  sl : Option Nat
  ts : Addr → Value → Option Addr → TS
def outE (sl : Option Nat) (D : Ends) : Ends := match sl with
  | none => D
  | some i => { nx := fun σ H => D.nx (σ.set i none) H, rt := D.rt, bk := fun σ H => D.bk (σ.set i none) H, ct := fun σ H => D.ct (σ.set i none) H }
def inS (sl : Option Nat) (a : Addr) (σ : St) : St := match sl with
  | none => σ
  | some i => σ.set i (some (.ref a))
def wG2 (K : PySem.W.Frag) (Wout : WX) (D : Ends) : List Cls1 → WX
  | [] => Wout
  | q :: r => fun cls d σ H => ∃ b, PySem.W.exmOne K cls q.c = some b ∧ (b = true → ∀ a, H a = none → q.ts a cls d (outE q.sl D) (inS q.sl a σ) H) ∧ (b = false → wG2 K Wout D r cls d σ H)
/-- the name of a clause is that of its slot -/
def NmOk (X : Cx) : Option Str → Option Nat → Prop
  | none, none => True
  | some n, some i => X.N[i]? = some n ∧ X.env.kindOf n = some .local
  | _, _ => False
inductive HdG (X : Cx) : List ExceptHandler → List Cls1 → Prop
  | nil : HdG X [] []
  | cons {x : Str} {nm : Option Str} {q : Cls1} {b₀ : Stmt} {su : List Stmt} {np ps : Pos} {hds : List ExceptHandler} {l : List Cls1} (hc : Names X x q.c) (hn : NmOk X nm q.sl)
      (hu : ∀ (a : Addr) (oe : Obj) (cls : Value) (d : Option Addr) (pn : List (Addr × Obj)), Zc cls d oe → (∃ vs, oe.data = .fields vs) → PSs (X.suite a ((a, oe) :: pn)) (b₀ :: su) (q.ts a cls d)) (r : HdG X hds l) :
      HdG X (.ExceptHandler (some (.Name x np)) nm (b₀ :: su) ps :: hds) (q :: l)
section
variable {X : Cx} {body : List Stmt} {h₀ : ExceptHandler} {hds : List ExceptHandler} {l : List Cls1} {pos : Pos} {tb : WX → TS} {Wo : WX}
theorem ps_tryG (hs : X.stack = X.env :: X.outer) (hf : X.env.frame = some X.env.locals) (hN : X.N.Nodup) (tk : Takes X Wo)
    (hb : ∀ (W : WX) (pn : List (Addr × Obj)) (xe : Value → Shared → Prop), Takes (X.tr pn xe) W → PassesOwn (model X.prog X.w) X.A X.env xe → PSs (X.tr pn xe) body (tb W))
    (hh : HdG X (h₀ :: hds) l) : PS X (.Try body (h₀ :: hds) [] [] pos) (fun D σ H => tb (wG2 X.K Wo D l) D σ H) := by
  refine ⟨fun pins s σ H D I h => ?_⟩
  have okX := I.ok
  have frX : X.A.frames = some (X.env :: X.outer) := by rw [okX.frames, hs]
  refine wpAny_Try_except (wpAny_mono ((hb (wG2 X.K Wo D l) (X.pn ++ pins) (fun e t => wpAny (model X.prog X.w) X.A (noteFrame e X.env) (fun _ t => wpAny (model X.prog X.w) X.A (setFlight e none) (fun _ t => wpAny (model X.prog X.w) X.A (handleBy e X.env (h₀ :: hds)) (SP X pins D) X.xe t) X.xe t) X.xe t)
    (fun u t xx => ?_) PassesOwn.looking).run [] s σ H D (I.toTry _) h) (fun f t hp => ?_) (fun _ _ he => he))
  · obtain ⟨a, B, sI, pi', σ1, H1, cls, d, rfl, J', nb, up, sky, na, os, ag, w⟩ := xx
    have J : Inv X pins σ1 H1 sI := J'.ofTry okX
    show wpAny (model X.prog X.w) X.A (noteFrame (.ref a) X.env) _ _ _
    refine Sky.land Zc.steady frX hf (by rw [← hs]; exact sky) fun h3 fl3 up3 => ?_
    have J3 : Inv X pins σ1 H1 { t with heap := h3 } := J.landed nb fl3.1 (up.trans up3) os ag
    obtain ⟨oe3, vs3, g3, z3, d3⟩ := fl3.there
    have nfr : a ∉ frs (X.env :: X.outer) := fun hm => by
      obtain ⟨_, o', e', k⟩ := fl3.2.2.1.mem hm
      rw [g3] at e'; cases e'; exact k _ d3
    have nL : a ≠ X.env.locals := fun z => nfr (List.mem_filterMap.mpr ⟨X.env, List.mem_cons_self, by rw [hf, z]⟩)
    have nF : a ∉ X.fs := fun hm => by
      obtain ⟨en, hen, q⟩ := List.mem_filterMap.mp hm
      exact nfr (List.mem_filterMap.mpr ⟨en, List.mem_cons_of_mem _ hen, q⟩)
    have S3 := J3.suite g3 d3 na nL nF
    have go : ∀ {hs2 : List ExceptHandler} {l2 : List Cls1}, HdG X hs2 l2 → wG2 X.K Wo D l2 cls d σ1 H1 → wpAny (model X.prog X.w) X.A (handleBy (.ref a) X.env hs2) (SP X pins D) X.xe { t with heap := h3 } := by
      intro hs2 l2 hk
      induction hk with
      | nil =>
        intro w
        refine wpAny_handleBy_nil ?_
        obtain ⟨_, _, _, oe, vs, T, oT, _, he, _, hd, h1, _⟩ := id fl3
        unfold PySem.passOn
        refine wpAny_bind (wpAny_field he hd h1 ?_)
        rw [if_neg (by simp : ¬ ((Value.ref T == Value.none) = true))]
        have up1 : wpAny (model X.prog X.w) X.A (setFlight (.ref a) X.env.frame) (fun _ t4 => wpAny (model X.prog X.w) X.A (throw (.ref a) : Sem Flow) (SP X pins D) X.xe t4) X.xe { t with heap := h3 } := by
          rw [hf]
          exact HandSPX.setFlight_upZ fl3 fun h4 hh4 up4 => wpAny_throw (tk _ _ ⟨a, B, sI, pins, σ1, H1, cls, d, rfl, J, nb, (up.trans up3).trans up4, .inr (.inr (by rw [hs]; exact hh4)), na, os, ag, w⟩)
        first
          | exact wpAny_bind (wpAny_pure (wpAny_bind up1))
          | exact wpAny_bind up1
      | @cons x nm q b₀ su np ps hd2 l2 hc hn hu r ih =>
        intro w
        obtain ⟨b, e1, hy, hno⟩ := w
        refine wpAny_handleBy_cons (codeAny_handlers_test ?_) (by intro q; cases q)
        have LM := PySem.W.exm_one (M := model X.prog X.w) J3.kIn (fun A Q E s k q => wpAny_typeOf_ref (k _ _ g3) (by rw [z3.1]; exact q)) e1
        have nam : ∀ {Q : Value → Shared → Prop} {E : Value → Shared → Prop}, Q q.c { t with heap := h3 } → wpAny (model X.prog X.w) (X.A.mark (some (.ref a))) (eval (.Name x np) X.env) Q E { t with heap := h3 } := fun {Q E} z => by
          obtain ⟨k1, k2, k3 | ⟨k3, k4, k5⟩⟩ := hc
          · exact ld_glob (X := X.suite a ((a, oe3) :: (X.pn ++ pins))) S3 k1 k3 z k2
          · exact ld_blt (X := X.suite a ((a, oe3) :: (X.pn ++ pins))) S3 k1 k3 k4 z k5 k2
        refine nam (LM.here ?_)
        cases b with
        | false =>
          show wpAny _ X.A (handleBy (.ref a) X.env hd2) _ _ _
          exact ih (hno rfl)
        | true =>
          have hy := hy rfl a na
          obtain ⟨qc, qs, qt⟩ := q
          cases qs with
          | none =>
            cases nm with
            | some n => exact (show False from hn).elim
            | none =>
              refine codeAny_handlers_suite (HandSPX.lands_againZ fl3 fun h4 fl4 up4 => ?_)
              obtain ⟨oe4, vs4, g4, z4, d4⟩ := fl4.there
              have S4 := (J.landed (s' := { t with heap := h4 }) nb fl4.1 ((up.trans up3).trans up4) os ag).suite g4 d4 na nL nF
              refine wpAny_mono ((hu a oe4 cls d (X.pn ++ pins) z4 ⟨_, d4⟩).run [] _ _ H1 _ S4 hy) (fun f t6 hp => ?_) (fun _ _ z => z.elim)
              cases f with
              | next => obtain ⟨_, _, S6, k⟩ := hp; exact ⟨_, _, S6.unsuite okX, k⟩
              | brk => obtain ⟨_, _, S6, k⟩ := hp; exact ⟨_, _, S6.unsuite okX, k⟩
              | cont => obtain ⟨_, _, S6, k⟩ := hp; exact ⟨_, _, S6.unsuite okX, k⟩
              | ret u => obtain ⟨_, _, _, S6, r6, k⟩ := hp; exact ⟨_, _, _, S6.unsuite okX, r6, k⟩
          | some i =>
            cases nm with
            | none => exact (show False from hn).elim
            | some n =>
              obtain ⟨hi, hl⟩ := hn
              refine codeAny_handlers_suite_as (HandSPX.lands_againZ fl3 fun h4 fl4 up4 => ?_)
              obtain ⟨oe4, vs4, g4, z4, d4⟩ := fl4.there
              have S4 := (J.landed (s' := { t with heap := h4 }) nb fl4.1 ((up.trans up3).trans up4) os ag).suite g4 d4 na nL nF
              refine store_ok (X := X.suite a ((a, oe4) :: (X.pn ++ pins))) (v := .ref a) S4 hN hi (.inl hl) rfl (fun s5 S5 => ?_) (.inr hl)
              refine wpAny_mono ((hu a oe4 cls d (X.pn ++ pins) z4 ⟨_, d4⟩).run [] s5 _ H1 _ S5 hy) (fun f t6 hp => ?_) (fun _ _ z => z.elim)
              have gone : ∀ {σ6 : St} {H6 : Hp} {Q : Shared → Prop}, Inv (X.suite a ((a, oe4) :: (X.pn ++ pins))) [] σ6 H6 t6 → (∀ t7, Inv X pins (σ6.set i none) H6 t7 → Q t7) → wpAny (model X.prog X.w) X.A (do bindName X.env n .none; unbindBehindTheSuite X.env n ps) (fun _ t7 => Q t7) X.xe t6 :=
                fun S6 hq => gone_ok (S6.unsuite okX) hN hi hl hq
              cases f with
              | next => obtain ⟨_, _, S6, k⟩ := hp; exact gone S6 fun _ J7 => ⟨_, _, J7, k⟩
              | brk => obtain ⟨_, _, S6, k⟩ := hp; exact gone S6 fun _ J7 => ⟨_, _, J7, k⟩
              | cont => obtain ⟨_, _, S6, k⟩ := hp; exact gone S6 fun _ J7 => ⟨_, _, J7, k⟩
              | ret u => obtain ⟨_, _, _, S6, r6, k⟩ := hp; exact gone S6 fun _ J7 => ⟨_, _, _, J7, r6, k⟩
    exact go hh w
  · cases f with
    | next => obtain ⟨_, _, J2, k⟩ := hp; exact wpAny_execs_nil ⟨_, _, J2.ofTry okX, k⟩
    | brk => obtain ⟨_, _, J2, k⟩ := hp; exact ⟨_, _, J2.ofTry okX, k⟩
    | cont => obtain ⟨_, _, J2, k⟩ := hp; exact ⟨_, _, J2.ofTry okX, k⟩
    | ret u => obtain ⟨_, _, _, J2, r2, k⟩ := hp; exact ⟨_, _, _, J2.ofTry okX, r2, k⟩
end
/-! by values -/
structure Cl3 where
  c : Value
  sl : Option Nat
  /-- what the suite is to do, from the slots and the heap of things -/
  g : Cx → Addr → Value → Option Addr → En → St3 → Mp → Prop
def outEn (sl : Option Nat) (D : En) : En := match sl with
  | none => D
  | some i => { nx := fun σ M => D.nx (σ.set i none) M, rt := D.rt, bk := fun σ M => D.bk (σ.set i none) M, ct := fun σ M => D.ct (σ.set i none) M }
def inS3 (sl : Option Nat) (a : Addr) (σ : St3) : St3 := match sl with
  | none => σ
  | some i => σ.set i (some (.ref a))
/-- an exception meets the clauses -/
def Meets (K : PySem.W.Frag) (bh : Cx → Prop) (Ro : XQ3) (D : En) : List (Value × Option Nat × List Stmt) → XQ3
  | [] => Ro
  | (c, sl, su) :: r => fun cls d σ M => ∃ b, PySem.W.exmOne K cls c = some b ∧ (b = true → ∀ Z a, bh Z → Hnd Z a cls d → M a = none → WSs Z su (inS3 sl a σ) M (outEn sl D)) ∧ (b = false → Meets K bh Ro D r cls d σ M)
/-- the clauses as they are written -/
inductive HdW (sc : Scope) (mg : Str → Option Value) (N : List Str) : List ExceptHandler → List (Value × Option Nat × List Stmt) → Prop
  | nil : HdW sc mg N [] []
  | only {x : Str} {np ps : Pos} {b₀ : Stmt} {su : List Stmt} {c : Value} {hds l} : sc.names.lookup x = some .globalImplicit → mg x = some c → (x == ("__debug__" : Str)) = false → HdW sc mg N hds l → HdW sc mg N (.ExceptHandler (some (.Name x np)) none (b₀ :: su) ps :: hds) ((c, none, b₀ :: su) :: l)
  | as {x n : Str} {i : Nat} {np ps : Pos} {b₀ : Stmt} {su : List Stmt} {c : Value} {hds l} : sc.names.lookup x = some .globalImplicit → mg x = some c → (x == ("__debug__" : Str)) = false → At N i n → sc.names.lookup n = some .local → HdW sc mg N hds l → HdW sc mg N (.ExceptHandler (some (.Name x np)) (some n) (b₀ :: su) ps :: hds) ((c, some i, b₀ :: su) :: l)
section
variable {X : Cx} {σ : St3} {M : Mp} {D : En} {pos : Pos} {Ro : XQ3} {body : List Stmt} {h₀ : ExceptHandler} {hds : List ExceptHandler} {l : List (Value × Option Nat × List Stmt)}
variable {P : Program} {w : World} {K : PySem.W.Frag} {mg : Str → Option Value} {base : Heap} {CX : CXT} {N : List Str} {sc : Scope} {fl : Bool} {k : Nat}
def tsOf (X : Cx) (su : List Stmt) : Addr → Value → Option Addr → TS := fun a cls d D σ H => ∀ pn oe, Zc cls d oe → (∃ vs, oe.data = .fields vs) → wSs (X.suite a ((a, oe) :: pn)) su D σ H
theorem ws_tryG (B : Bd P w K mg base CX N sc fl k X) (S : Stk X) (tk : Tk X Ro) (hw : HdW sc mg N (h₀ :: hds) l)
    (h : ∀ Mf, LeM M Mf → ∀ Y, Bd P w K mg base CX N sc fl k Y → Stk Y → Tk Y (fun cls d σ1 M1 => LeM Mf M1 ∧ Meets K (Bh P w K mg base N sc fl) Ro D l cls d σ1 M1) → WSs Y body σ Mf D) : WS X (.Try body (h₀ :: hds) [] [] pos) σ M D := fun σ' H s m pins st I => by
  obtain ⟨rfl, rfl, rfl, rfl, rfl, rfl, rfl, calm, room, pas, own, nd, fnn⟩ := B
  obtain ⟨Wo, tWo, hWo⟩ := tk
  have hg : HdG X (h₀ :: hds) (l.map fun z => ⟨z.1, z.2.1, tsOf X z.2.2⟩) := by
    clear h
    generalize h₀ :: hds = hl at hw
    induction hw with
    | nil => exact .nil
    | only h1 h2 h3 _ ih => exact .cons (q := ⟨_, none, tsOf X _⟩) ⟨h1, h3, .inl h2⟩ trivial (fun a oe cls d pn hz hf => ⟨fun pins s σ H D I h => h pn oe hz hf pins s I⟩) ih
    | as h1 h2 h3 h4 h5 _ ih => exact .cons (q := ⟨_, some _, tsOf X _⟩) ⟨h1, h3, .inl h2⟩ ⟨h4.get, h5⟩ (fun a oe cls d pn hz hf => ⟨fun pins s σ H D I h => h pn oe hz hf pins s I⟩) ih
  refine (ps_tryG (tb := fun W D σ' H' => ∀ pn xe, Takes (X.tr pn xe) W → PassesOwn (model X.prog X.w) X.A X.env xe → wSs (X.tr pn xe) body D σ' H') S.st S.fr nd tWo
    (fun W pn xe tW po => ⟨fun pins s σ H D I h => h pn xe tW po pins s I⟩) hg).run pins st σ' H _ I ?_
  intro pn xe tW po
  refine h (flrM M H) flr_le (X.tr pn xe) ⟨rfl, rfl, rfl, rfl, rfl, rfl, rfl, calm, room, pas, po, nd, fnn⟩ ⟨S.st, S.fr⟩ ⟨_, tW, fun cls d σ1' σ1 H1 M1 t sl sm ⟨le, me⟩ => ?_⟩ σ' H s (flr_sim m)
  have tH := flr_tm m le sm
  clear hw hg h tW
  induction l with
  | nil => exact hWo cls d σ1' σ1 H1 M1 t sl sm me
  | cons z r ih =>
    obtain ⟨c, si, su⟩ := z
    obtain ⟨b, eb, hy, hn⟩ := me
    refine ⟨b, eb, fun hb a ha pn' oe hz hf => ?_, fun hb => ih ⟨le, hn hb⟩ (hn hb)⟩
    have hy := hy hb (X.suite a ((a, oe) :: pn')) a ⟨rfl, rfl, rfl, rfl, rfl, rfl, rfl, nd, fnn⟩ ⟨X, oe, pn', rfl, hz, hf⟩ (sm.no ha)
    cases si with
    | none => exact hy.at (X := X.suite a ((a, oe) :: pn')) tH sl sm
    | some i =>
      refine (hy.at (X := X.suite a ((a, oe) :: pn')) tH (sl.set i (.ref a)) sm).mono ?_ (fun _ _ z => z) ?_ ?_
      · rintro σ2 H2 ⟨σ3, M3, t3, s3, m3, q⟩; exact ⟨_, M3, t3, s3.unset2 i, m3, q⟩
      · rintro σ2 H2 ⟨σ3, M3, t3, s3, m3, q⟩; exact ⟨_, M3, t3, s3.unset2 i, m3, q⟩
      · rintro σ2 H2 ⟨σ3, M3, t3, s3, m3, q⟩; exact ⟨_, M3, t3, s3.unset2 i, m3, q⟩
end
end G3

set_option Elab.async false
set_option linter.all false
set_option maxRecDepth 100000
set_option maxHeartbeats 4000000
/-! L3: texts; small list methods -/
namespace G3
open PySem PySem.Spec L2 PySem.Builtin.Str
section
variable {X : Cx} {a b c e o tg : Expr} {es : List Expr} {σ : St3} {M : Mp} {Q : VQ} {D : En} {pos : Pos} {x : Str} {i : Nat}
theorem oi_str {z : Str} {i : Int} {ch : Nat} (hz : z.length ≤ sizeLine) (e : atI z.cps.toList i = some ch) (q : Q (.str ⟨#[ch]⟩) M) : OI X (.str z) (.int i) M Q := fun H v u m r1 r2 => by
  cases r1; cases r2
  exact wIx.of ix_str ⟨z, i, ch, rfl, rfl, hz, e, .mk m (.str _) q⟩
theorem fold_size (a : Array Nat) : ∀ (k : Nat) (acc : Array Nat), ((List.replicate k a).foldl (· ++ ·) acc).size = acc.size + k * a.size
  | 0, acc => by simp
  | k + 1, acc => by
    rw [List.replicate_succ, List.foldl_cons, fold_size a k, Array.size_append, Nat.succ_mul]
    omega
/-- x * n of a text -/
def repS (x : Str) (n : Int) : Str := if n < 1 then Str.empty else if (n == 1 || x.length == 0) = true then x else ⟨(List.replicate n.toNat x.cps).foldl (· ++ ·) #[]⟩
theorem repS_len {x : Str} {n : Int} : (repS x n).length ≤ x.length * n.toNat := by
  unfold repS
  split
  · exact Nat.zero_le _
  · split
    · rename_i h
      simp only [Bool.or_eq_true, beq_iff_eq] at h
      rcases h with h | h
      · subst h; simp
      · rw [h]; exact Nat.zero_le _
    · show ((List.replicate n.toNat x.cps).foldl (· ++ ·) #[]).size ≤ _
      rw [fold_size]
      have : x.length = x.cps.size := rfl
      rw [this, Nat.mul_comm]
      simp
theorem o2_mulS {x : Str} {n : Int} (h0 : 0 ≤ n) (h1 : n ≤ 100) (hx : x.length ≤ 100) (q : Q (.str (repS x n)) M) : O2 X (binaryOp .Mult) (.str x) (.int n) M Q := fun H v u m r1 r2 => fun pins s σ v1 u1 I z1 z2 => by
  cases r1; cases r2
  obtain ⟨t1, rfl⟩ := z1
  obtain ⟨t2, rfl⟩ := z2
  have l1 : x.length * n.toNat ≤ 10000 := by
    have h : n.toNat ≤ 100 := by omega
    exact Nat.mul_le_mul hx h
  have l2 : (repS x n).length ≤ sizeLine := Nat.le_trans repS_len (Nat.le_trans l1 (by decide))
  have fin : ∀ t k, EP X pins σ (PoE X.K H Q) (.str (repS x n) t) { s with toks := k } := fun t k => ⟨.str _, H, I.tok k, ⟨t, rfl⟩, .mk m (.str _) q⟩
  refine PySem.P.mul_str (by
    rw [decide_eq_false (by omega : ¬ n < -(2 ^ 63)), decide_eq_false (by omega : ¬ n ≥ 2 ^ 63)]; rfl) (fun c _ => ?_) (fun _ _ => ?_) ?_
  · have h2 : (100 : Int) ≤ (2 ^ 63 - 1) / n := by
      rw [Int.le_ediv_iff_mul_le (by omega)]
      omega
    omega
  · exact decide_eq_false (by have : sizeLine = 16777216 := by decide
                              omega)
  · by_cases c : n < 1
    · rw [if_pos c]
      have e : repS x n = Str.empty := by unfold repS; rw [if_pos c]
      rw [e] at fin l2
      exact ⟨l2, fin _ _⟩
    · rw [if_neg c]
      by_cases c2 : (n == 1 || x.length == 0) = true
      · rw [if_pos c2]
        have e : repS x n = x := by unfold repS; rw [if_neg c, if_pos c2]
        rw [e] at fin
        exact fin t1 s.toks
      · rw [if_neg c2]
        have e : repS x n = ⟨(List.replicate n.toNat x.cps).foldl (· ++ ·) #[]⟩ := by unfold repS; rw [if_neg c, if_neg c2]
        rw [e] at fin l2
        exact ⟨l2, fin _ _⟩
theorem rvs_strsV {K : PySem.W.Frag} {H : Hp} {ys : List Str} : ∀ {vs : List V}, Rvs K H vs (ys.map VV.str) → vs = ys.map V.str := by
  induction ys with
  | nil => intro vs h; cases h; rfl
  | cons y ys ih => intro vs h; cases h with | cons a b => cases a; rw [ih b]; rfl
theorem we_join {apos : Pos} (h : WE X o σ M fun u M1 => ∃ z, u = .str z ∧ WE X e σ M1 fun w M2 => ∃ ys, Lst M2 w (ys.map VV.str) ∧ (ys.map (·.length)).sum + ys.length * z.length ≤ 16777216 ∧ Q (.str (Txt.join z ys)) M2)
    (hs : starEach [e] X.env = [(false, eval e X.env)] := by rfl) (hbase : attributeBase o "join" X.env (eval o X.env) = eval o X.env := by rfl) (hline : (apos.endLine == pos.line) = true := by rfl) : WE X (.Call (.Attribute o "join" apos) [e] [] pos) σ M Q := fun σ' H s m =>
  wE.of (pe_join wE.pe wE.pe hs hbase hline) (h.run s m fun v H1 u M1 t1 m1 r1 s1 ⟨z, eu, q1⟩ => by
    subst eu; cases r1
    exact ⟨⟨z, rfl⟩, q1.run s1 m1 fun v2 H2 u2 M2 t2 m2 r2 s2 ⟨ys, hl, hz, q⟩ => by
      obtain ⟨a, vs, rfl, h1, h2⟩ := hl.v m2 r2
      rw [rvs_strsV h2] at h1
      exact ⟨z, a, ys, rfl, rfl, .inl h1, hz, .str _, M2, t1.trans t2, m2, .str _, q⟩⟩)
/-- xs.pop() -/
theorem we_pop {apos cpos : Pos} (h : WE X a σ M fun l M1 => ∃ p ws y, l = .ref p ∧ M1 p = some (.lst (ws ++ [y])) ∧ Q y (updM M1 p (.lst ws)))
    (hbase : attributeBase a "pop" X.env (eval a X.env) = eval a X.env := by rfl) (hline : (apos.endLine == cpos.line) = true := by rfl) : WE X (.Call (.Attribute a "pop" apos) [] [] cpos) σ M Q := fun σ' H s m =>
  wE.of (pe_bm0 PySem.F.plainAttrs_list PySem.F.slot_list_pop PySem.F.type_list_pop mt_pop wE.pe hbase hline) (h.run s m fun v H1 l M1 t1 m1 r1 s1 ⟨p, ws, y, e1, e2, q⟩ => by
    subst e1; cases r1
    obtain ⟨vs, h1, h2⟩ := m1 _ _ e2
    have hl := h2.length
    rw [List.length_append] at hl
    obtain ⟨v, hv, rv⟩ := h2.get (i := ws.length) (w := y) (by simp)
    have e3 : vs.dropLast = vs.take ws.length := by
      rw [List.dropLast_eq_take, hl]; rfl
    have h3 := h2.take ws.length
    rw [show (ws ++ [y]).take ws.length = ws by simp] at h3
    exact ⟨.inl ⟨rfl, vs, SqL.of h1⟩, p, vs, v, rfl, rfl, h1, by rw [hl]; exact hv, y, _, t1.trans (TM.lst h1), m1.putL (TM.lst h1) (.inr ⟨_, e2⟩) (by rw [e3]; exact h3), Rv.mono (TM.lst h1) _ _ rv, q⟩)
/-! dicts of texts -/
section
variable {β : Type}
abbrev dS (f : β → VV) (l : List (Str × β)) : List (Key × VV) := l.map fun p => (Sum.inr p.1, f p.2)
def getS (l : List (Str × β)) (n : Str) : Option β := (l.find? fun q => decide (q.1 = n)).map (·.2)
def putS (l : List (Str × β)) (n : Str) (b : β) : List (Str × β) := if (l.any fun q => decide (q.1 = n)) = true then l.map (fun q => if q.1 = n then (q.1, b) else q) else l ++ [(n, b)]
theorem inr_eq {a b : Str} : decide ((Sum.inr a : Key) = Sum.inr b) = decide (a = b) := key_rr a b
theorem dS_look (f : β → VV) (n : Str) : ∀ l : List (Str × β), lookW (dS f l) (.inr n) = (getS l n).map f
  | [] => rfl
  | p :: l => by
    have ih := dS_look f n l
    unfold lookW getS at ih ⊢
    simp only [dS, List.map_cons, List.find?_cons, inr_eq] at ih ⊢
    by_cases c : p.1 = n
    · simp [c]
    · simp only [c, decide_false]; exact ih
theorem dS_any (f : β → VV) (n : Str) : ∀ l : List (Str × β), ((dS f l).any fun q => decide (q.1 = (Sum.inr n : Key))) = l.any fun q => decide (q.1 = n)
  | [] => rfl
  | p :: l => by
    have ih := dS_any f n l
    simp only [dS, List.map_cons, List.any_cons, inr_eq] at ih ⊢
    rw [ih]
theorem dS_put (f : β → VV) (n : Str) (b : β) (l : List (Str × β)) : putW (dS f l) (.inr n) (f b) = dS f (putS l n b) := by
  unfold putW putS
  rw [dS_any]
  split
  · simp only [dS, List.map_map]
    refine List.map_congr_left fun p _ => ?_
    simp only [Function.comp]
    by_cases c : p.1 = n
    · rw [if_pos (by rw [c]), if_pos c]
    · rw [if_neg (fun z => c (Sum.inr.inj z)), if_neg c]
  · simp [dS]
theorem putS_len (l : List (Str × β)) (n : Str) (b : β) : (putS l n b).length ≤ l.length + 1 := by
  unfold putS
  split
  · rw [List.length_map]; omega
  · simp
theorem putS_mem {l : List (Str × β)} {n : Str} {b : β} {p : Str × β} (h : p ∈ putS l n b) : (p.1 = n ∧ p.2 = b) ∨ p ∈ l := by
  unfold putS at h
  split at h
  · obtain ⟨q, hq, e⟩ := List.mem_map.mp h
    by_cases c : q.1 = n
    · rw [if_pos c] at e; subst e; exact .inl ⟨c, rfl⟩
    · rw [if_neg c] at e; subst e; exact .inr hq
  · rcases List.mem_append.mp h with h | h
    · exact .inr h
    · rw [List.mem_singleton.mp h]; exact .inl ⟨rfl, rfl⟩
theorem putS_keys (l : List (Str × β)) (n : Str) (b : β) : (putS l n b).map (·.1) = if n ∈ l.map (·.1) then l.map (·.1) else l.map (·.1) ++ [n] := by
  unfold putS
  have e : (l.any fun q => decide (q.1 = n)) = true ↔ n ∈ l.map (·.1) := by
    rw [List.any_eq_true]
    constructor
    · rintro ⟨q, hq, h⟩; exact List.mem_map.mpr ⟨q, hq, of_decide_eq_true h⟩
    · intro h
      obtain ⟨q, hq, h⟩ := List.mem_map.mp h
      exact ⟨q, hq, decide_eq_true h⟩
  by_cases c : n ∈ l.map (·.1)
  · rw [if_pos (e.mpr c), if_pos c, List.map_map]
    refine List.map_congr_left fun p _ => ?_
    simp only [Function.comp]
    split
    · rename_i h; rfl
    · rfl
  · rw [if_neg (fun z => c (e.mp z)), if_neg c]; simp
theorem putS_nodup {l : List (Str × β)} {n : Str} {b : β} (h : (l.map (·.1)).Nodup) : ((putS l n b).map (·.1)).Nodup := by
  rw [putS_keys]
  split
  · exact h
  · rename_i c
    rw [List.nodup_append]
    exact ⟨h, by simp, fun a ha b hb => by rw [List.mem_singleton.mp hb]; intro z; subst z; exact c ha⟩
theorem getS_mem {l : List (Str × β)} {n : Str} {b : β} (h : getS l n = some b) : (n, b) ∈ l := by
  unfold getS at h
  obtain ⟨q, hq, rfl⟩ := Option.map_eq_some_iff.mp h
  have h1 := List.find?_some hq
  have h2 := List.mem_of_find?_eq_some hq
  have : q.1 = n := of_decide_eq_true h1
  rw [← this]; exact h2
theorem getS_isSome {l : List (Str × β)} {n : Str} : (getS l n).isSome = true ↔ n ∈ l.map (·.1) := by
  unfold getS
  rw [Option.isSome_map, List.find?_isSome]
  constructor
  · rintro ⟨q, hq, h⟩; exact List.mem_map.mpr ⟨q, hq, of_decide_eq_true h⟩
  · intro h
    obtain ⟨q, hq, h⟩ := List.mem_map.mp h
    exact ⟨q, hq, decide_eq_true h⟩
theorem getS_of {l : List (Str × β)} (hn : (l.map (·.1)).Nodup) {n : Str} {b : β} (h : (n, b) ∈ l) : getS l n = some b := by
  induction l with
  | nil => cases h
  | cons p l ih =>
    rw [List.map_cons, List.nodup_cons] at hn
    unfold getS
    rw [List.find?_cons]
    by_cases c : p.1 = n
    · simp only [c, decide_true, Option.map_some]
      rcases List.mem_cons.mp h with h | h
      · rw [← h]
      · exact absurd (List.mem_map.mpr ⟨_, h, c.symm⟩) hn.1
    · simp only [c, decide_false]
      rcases List.mem_cons.mp h with h | h
      · rw [← h] at c; exact absurd rfl c
      · exact ih hn.2 h
end
end
end G3

set_option Elab.async false
set_option linter.all false
set_option maxRecDepth 100000
set_option maxHeartbeats 4000000
/-! what the ratios stand for -/
namespace G3
open PySem L2 PySem.W
def rq (p : Rt) : Rat := (p.1 : Rat) / (p.2 : Rat)
theorem castP {n : Int} (h : 0 < n) : (0 : Rat) < (n : Rat) := by exact_mod_cast h
theorem castN {n : Int} (h : n ≠ 0) : (n : Rat) ≠ 0 := by exact_mod_cast h
theorem rq_mul {p : Rt} (h : 0 < p.2) : rq p * (p.2 : Rat) = (p.1 : Rat) := by
  have := castN (n := p.2) (by omega)
  unfold rq
  grind
theorem rq_nrm {a b : Int} (hb : b ≠ 0) : rq (nrm a b) = (a : Rat) / (b : Rat) := by
  obtain ⟨g, hg, e1, e2, h3, _⟩ := nrm_is a b hb
  generalize nrm a b = p at e1 e2 h3
  have c1 : (a : Rat) = (p.1 : Rat) * (g : Rat) := by rw [e1]; exact Rat.intCast_mul _ _
  have c2 : (b : Rat) = (p.2 : Rat) * (g : Rat) := by rw [e2]; exact Rat.intCast_mul _ _
  have n1 := castN hg
  have n2 := castN (n := p.2) (by omega)
  rw [c1, c2]
  unfold rq
  grind
theorem rq_sum {p q : Rt} (hp : 0 < p.2) (hq : 0 < q.2) : rq (rsum p q) = rq p + rq q := by
  unfold rsum
  rw [rq_nrm (mul_ne hp hq)]
  have n1 := castN (n := p.2) (by omega)
  have n2 := castN (n := q.2) (by omega)
  unfold rq
  simp only [Rat.intCast_mul, Rat.intCast_add]
  grind
theorem rq_dif {p q : Rt} (hp : 0 < p.2) (hq : 0 < q.2) : rq (rdif p q) = rq p - rq q := by
  unfold rdif
  rw [rq_nrm (mul_ne hp hq)]
  have n1 := castN (n := p.2) (by omega)
  have n2 := castN (n := q.2) (by omega)
  unfold rq
  simp only [Rat.intCast_mul, Rat.intCast_sub]
  grind
theorem rq_prod {p q : Rt} (hp : 0 < p.2) (hq : 0 < q.2) : rq (rprod p q) = rq p * rq q := by
  unfold rprod
  rw [rq_nrm (mul_ne hp hq)]
  have n1 := castN (n := p.2) (by omega)
  have n2 := castN (n := q.2) (by omega)
  unfold rq
  simp only [Rat.intCast_mul]
  grind
theorem rq_quo {p q : Rt} (hp : 0 < p.2) (hq : 0 < q.2) (h : q.1 ≠ 0) : rq (rquo p q) = rq p / rq q := by
  have hn : p.2 * q.1 ≠ 0 := fun z => by rcases Int.mul_eq_zero.mp z with z | z <;> omega
  unfold rquo
  rw [rq_nrm hn]
  have n1 := castN (n := p.2) (by omega)
  have n2 := castN (n := q.2) (by omega)
  have n3 := castN h
  unfold rq
  simp only [Rat.intCast_mul]
  grind
theorem rq_lt {p q : Rt} (hp : 0 < p.2) (hq : 0 < q.2) : rcomp p q < 0 ↔ rq p < rq q := by
  have m1 := rq_mul hp
  have m2 := rq_mul hq
  have p1 := castP hp
  have p2 := castP hq
  have e : rcomp p q < 0 ↔ (p.1 : Rat) * (q.2 : Rat) < (q.1 : Rat) * (p.2 : Rat) := by
    unfold rcomp
    rw [← Rat.intCast_mul, ← Rat.intCast_mul, Rat.intCast_lt_intCast]
    omega
  rw [e, ← m1, ← m2]
  have pp := Rat.mul_pos p1 p2
  constructor
  · intro h
    by_cases c : rq p < rq q
    · exact c
    · have c' : rq q ≤ rq p := Rat.not_lt.mp c
      have := Rat.mul_le_mul_of_nonneg_right c' (Rat.le_of_lt pp)
      grind
  · intro h
    have := Rat.mul_lt_mul_of_pos_right h pp
    grind
theorem rq_le {p q : Rt} (hp : 0 < p.2) (hq : 0 < q.2) : rcomp p q ≤ 0 ↔ rq p ≤ rq q := by
  have h := rq_lt hq hp
  rw [rcomp_swap] at h
  constructor
  · intro c
    exact Rat.not_lt.mp fun z => by have := h.mpr z; omega
  · intro c
    by_cases z : rcomp p q ≤ 0
    · exact z
    · exact absurd (h.mp (by omega)) (Rat.not_lt.mpr c)
theorem rq_zero {p : Rt} (hp : 0 < p.2) : p.1 = 0 ↔ rq p = 0 := by
  have m1 := rq_mul hp
  have n1 := castN (n := p.2) (by omega)
  constructor
  · intro h
    unfold rq
    rw [h]
    grind
  · intro h
    rw [h] at m1
    have : (p.1 : Rat) = 0 := by grind
    exact_mod_cast this
theorem rq_neg {p : Rt} (hp : 0 < p.2) : p.1 < 0 ↔ rq p < 0 := by
  have h := rq_lt (p := p) (q := (0, 1)) hp (by decide)
  have e : rq (0, 1) = 0 := (rq_zero (p := (0, 1)) (by decide)).mp rfl
  rw [e] at h
  rw [← h]
  unfold rcomp
  show _ ↔ p.1 * 1 - 0 * p.2 < 0
  omega
theorem rq_abs {p : Rt} (hp : 0 < p.2) : rq (rabs p) = if rq p < 0 then - rq p else rq p := by
  have hn := rq_neg hp
  by_cases c : p.1 < 0
  · rw [if_pos (hn.mp c)]
    have e : ((p.1.natAbs : Int)) = - p.1 := by omega
    unfold rq rabs
    simp only [e, Rat.intCast_neg]
    grind
  · rw [if_neg (fun z => c (hn.mpr z))]
    have e : ((p.1.natAbs : Int)) = p.1 := by omega
    unfold rq rabs
    simp only [e]
theorem rq_int (n : Int) : rq (n, 1) = (n : Rat) := by
  unfold rq
  simp only [Rat.intCast_one]
  grind
end G3

set_option Elab.async false
set_option linter.all false
set_option maxRecDepth 100000
set_option maxHeartbeats 4000000
/-! texts in order; what is sorted; ratios alike -/
namespace G3
open PySem PySem.Spec L2
def leS (a b : Str) : Bool := decide (a.cps.toList ≤ b.cps.toList)
theorem leS_trans (a b c : Str) (h1 : leS a b = true) (h2 : leS b c = true) : leS a c = true :=
  decide_eq_true (List.le_trans (of_decide_eq_true h1) (of_decide_eq_true h2))
theorem leS_total (a b : Str) : (leS a b || leS b a) = true := by
  rcases List.le_total a.cps.toList b.cps.toList with h | h
  · rw [leS, decide_eq_true h]; rfl
  · rw [Bool.or_comm, leS, decide_eq_true h]; rfl
theorem leS_anti (a b : Str) (h1 : leS a b = true) (h2 : leS b a = true) : a = b := by
  have e := List.le_antisymm (of_decide_eq_true h1) (of_decide_eq_true h2)
  obtain ⟨x⟩ := a
  obtain ⟨y⟩ := b
  have : x = y := Array.toList_inj.mp e
  rw [this]
theorem leS_of {a b : Str} (h : ltCps b.cps.toList a.cps.toList = false) : leS a b = true := by
  rw [PyProof.Rows.ltCps_eq] at h
  exact decide_eq_true (List.not_lt.mp (of_decide_eq_false h))
theorem rising_pw : ∀ (l : List Str) (p : Str), PyProof.Rows.risingS p l = true → (p :: l).Pairwise (fun a b => leS a b = true)
  | [], p, _ => by simp
  | x :: r, p, h => by
    simp only [PyProof.Rows.risingS, Bool.and_eq_true, Bool.not_eq_true'] at h
    have ih := rising_pw r x h.2
    have hpx := leS_of h.1
    rw [List.pairwise_cons]
    refine ⟨fun y hy => ?_, ih⟩
    rcases List.mem_cons.mp hy with e | e
    · rw [e]; exact hpx
    · exact leS_trans _ _ _ hpx ((List.pairwise_cons.mp ih).1 y e)
theorem sorted_pw {l : List Str} (h : PyProof.Rows.sortedS l = true) : l.Pairwise (fun a b => leS a b = true) := by
  cases l with
  | nil => simp
  | cons x r => exact rising_pw r x h
def srt (l : List Str) : List Str := l.mergeSort leS
theorem srt_perm (l : List Str) : (srt l).Perm l := List.mergeSort_perm l leS
theorem srt_mem {l : List Str} {x : Str} : x ∈ srt l ↔ x ∈ l := (srt_perm l).mem_iff
theorem srt_len (l : List Str) : (srt l).length = l.length := (srt_perm l).length_eq
theorem srt_pw (l : List Str) : (srt l).Pairwise (fun a b => leS a b = true) := List.pairwise_mergeSort leS_trans leS_total l
theorem srt_is {l ys : List Str} (h : ys.Perm l) (hs : PyProof.Rows.sortedS ys = true) : ys = srt l :=
  List.Perm.eq_of_pairwise (fun a b _ _ => leS_anti a b) (sorted_pw hs) (srt_pw l) (h.trans (srt_perm l).symm)
theorem srt_congr {l l' : List Str} (h : l.Perm l') : srt l = srt l' :=
  List.Perm.eq_of_pairwise (fun a b _ _ => leS_anti a b) (srt_pw l) (srt_pw l') ((srt_perm l).trans (h.trans (srt_perm l').symm))
section
variable {X : Cx} {M : Mp} {Q : VQ} {β : Type}
theorem dS_keys (f : β → VV) (l : List (Str × β)) : (dS f l).map (·.1) = (l.map (·.1)).map Sum.inr := by
  simp only [dS, List.map_map]; rfl
/-- sorted(d) of a dict of texts -/
theorem oc_sortS (hc : X.calm = true) {a : Addr} {f : β → VV} {l : List (Str × β)} (h : DkAt M a (dS f l)) (hz : l.length < 64) (q : ∀ p, M p = none → Q (.ref p) (updM M p (.lst ((srt (l.map (·.1))).map .str)))) : OC X (.builtin "sorted") [.ref a] M Q :=
  oc_sortD1 hc h (dS_keys f l) (by rw [List.length_map]; exact hz) fun ys p hp hs np => by rw [srt_is hp hs]; exact q p np
end
/-! ratios in lowest terms are alike where they stand for the same -/
def Nm (p : Rt) : Prop := 0 < p.2 ∧ Int.gcd p.1 p.2 = 1
theorem nm_nrm {a b : Int} (h : b ≠ 0) : Nm (nrm a b) := ⟨nrm_pos a b h, nrm_cop a b h⟩
theorem nm_eq {p q : Rt} (hp : Nm p) (hq : Nm q) (h : p.1 * q.2 = q.1 * p.2) : p = q := by
  have key : ∀ {a b c d : Int}, Int.gcd a b = 1 → a * d = c * b → b ∣ d := fun {a b c d} g h => by
    have h1 : b.natAbs ∣ a.natAbs * d.natAbs := by
      rw [← Int.natAbs_mul, h, Int.natAbs_mul]
      exact Nat.dvd_mul_left _ _
    have co : Nat.Coprime b.natAbs a.natAbs := by
      show Nat.gcd b.natAbs a.natAbs = 1
      rw [Nat.gcd_comm]; exact g
    exact Int.natAbs_dvd_natAbs.mp (co.dvd_of_dvd_mul_left h1)
  have d1 : p.2 ∣ q.2 := key hp.2 h
  have d2 : q.2 ∣ p.2 := key hq.2 h.symm
  have e : p.2 = q.2 := Int.le_antisymm (Int.le_of_dvd hq.1 d1) (Int.le_of_dvd hp.1 d2)
  rw [e] at h
  have e1 : p.1 = q.1 := Int.eq_of_mul_eq_mul_right (by have := hq.1; omega) h
  exact Prod.ext e1 e
theorem nm_rq {p q : Rt} (hp : Nm p) (hq : Nm q) (h : rq p = rq q) : p = q := by
  refine nm_eq hp hq ?_
  have m1 := rq_mul hp.1
  have m2 := rq_mul hq.1
  have c : ((p.1 * q.2 : Int) : Rat) = ((q.1 * p.2 : Int) : Rat) := by
    rw [Rat.intCast_mul, Rat.intCast_mul, ← m1, ← m2, h]
    grind
  exact_mod_cast c
end G3

set_option Elab.async false
set_option linter.all false
set_option maxRecDepth 100000
set_option maxHeartbeats 4000000
/-! L3: own ==, !=, repr, str, len of instances; f-strings; str of ints -/
namespace G3
open PySem PySem.Spec L2 PyProof.Rows
section
variable {prog : Program} {w : World} {A : Around} {E : Value → Shared → Prop} {s : Shared} {K : PySem.W.Frag} {x C f : Addr} {ox : Obj} {od : Option Obj} {name : Str} {b tb : Value}
theorem ifBound_B {M : Model} {id : String} {args : List Value} {Q : Option Value → Shared → Prop} (X : K.In s.heap) (I : PySem.W.InstAt s.heap x ox C od) (hs : PySem.W.findIn K (.ref C) name = some (some (.builtin id))) (hb : ∀ self, bindSpecial (.builtin id) self = pure (.builtin id, [self]))
    (h : wpAny M A (call (.builtin id) (.ref x :: args)) (fun v => Q (some v)) E s) : wpAny M A (callSpecialIfBound? (.ref x) name args) Q E s := by
  simp only [callSpecialIfBound?, bindSpecialIfBound?]
  refine wpAny_holding (wpAny_bind (wpAny_bind (wpAny_bind (I.type.here ((PySem.W.looks_findIn X hs).here ?_)))))
  refine wpAny_bind (wpAny_askSetting (wpAny_ite ?_))
  have fin : wpAny M A (call (.builtin id) ([.ref x] ++ args) >>= fun v => pure (some v)) Q E s := wpAny_bind (wpAny_mono h (fun v s' h' => wpAny_pure h') fun _ _ h' => h')
  split
  · exact wpAny_bind ((PySem.W.Looks.of_pure (hb _)).here (wpAny_pure (by exact fin)))
  · exact wpAny_tryCatch (wpAny_bind ((PySem.W.Looks.of_pure (hb _)).here (wpAny_pure (by exact fin))))
theorem ne_B {Q : Value → Shared → Prop} (hu : A.in1.units < cLine) (X : K.In s.heap) (I : PySem.W.InstAt s.heap x ox C od) (hm : PySem.W.mroIn K C (.type "object") = some true) (hs : PySem.W.findIn K (.ref C) "__eq__" = some (some (.ref f))) (hf : PySem.W.isFn K (.ref f) = true)
    (h : wpAny (model prog w) A.in1 (call (.ref f) [.ref x, b]) (fun v s' => ∃ k, v = .bool k ∧ Q (.bool (!k)) s') E s) : wpAny (model prog w) A (call (.builtin "object.__ne__") [.ref x, b]) Q E s := by
  refine wpAny_call (codeAny_call_builtin PySem.F.cmp_object.ne.plain PySem.F.cmpEntry_ne (PySem.W.check_slot PySem.F.cmpKind_ne PySem.F.cmpSplit_ne (I.type.andThen (PySem.W.looks_mroIn X hm)) (PySem.F.cmpArgs_ne _ _) ?_))
  unfold Builtin.«object.__ne__»
  refine wpAny_bind (m := slotArgs "__ne__" 1 _) (wpAny_pure ?_)
  refine wpAny_bind (wpAny_cRoomFor hu ?_)
  refine wpAny_bind (m := callSpecialIfBound? (.ref x) (Str.ofString "__eq__") [b]) (PySem.W.ifBound_K X I hs hf (wpAny_mono h (fun r s' hr => ?_) fun _ _ y => y))
  obtain ⟨k, rfl, hq⟩ := hr
  refine wpAny_bind (m := truthy (.bool k)) (wpAny_truthy_bool ?_)
  exact wpAny_pure hq
theorem ne_K {Q : Value → Shared → Prop} (hu : A.units < cLine) (hu1 : A.in1.units < cLine) (X : K.In s.heap) (I : PySem.W.InstAt s.heap x ox C od) (hb : PySem.W.Looks (model prog w) s.heap (typeOf b) tb) (hn : PySem.W.notFirst K C tb = true) (hm : PySem.W.mroIn K C (.type "object") = some true)
    (hne : PySem.W.findIn K (.ref C) "__ne__" = some (some (.builtin "object.__ne__"))) (hs : PySem.W.findIn K (.ref C) "__eq__" = some (some (.ref f))) (hf : PySem.W.isFn K (.ref f) = true)
    (h : wpAny (model prog w) A.in1 (call (.ref f) [.ref x, b]) (fun v s' => ∃ k, v = .bool k ∧ Q (.bool (!k)) s') E s) : wpAny (model prog w) A (richCompare .NotEq (.ref x) b) Q E s := by
  have one : wpAny (model prog w) A (tryCompare (.ref x) (Str.ofString "__ne__") b) (fun r s' => ∃ v, r = some v ∧ Q v s') E s := by
    unfold tryCompare
    refine wpAny_bind (ifBound_B X I hne PySem.F.cmp_object.ne.bind (ne_B hu1 X I hm hs hf (wpAny_mono h (fun v s' hv => ?_) fun _ _ e => e)))
    obtain ⟨k, rfl, hq⟩ := hv
    exact ⟨k, rfl, wpAny_pure ⟨_, rfl, hq⟩⟩
  unfold richCompare
  simp only [oneThing_ref]
  refine wpAny_holding (wpAny_bind (wpAny_cRoomFor hu ?_))
  refine wpAny_bind (I.type.here (wpAny_bind (hb.here ?_)))
  split
  · rename_i q
    have e : PySem.W.subIn K tb (.ref C) = some false := by
      rcases Bool.or_eq_true_iff.mp hn with e | e
      · rw [beq_iff_eq.mp e] at q; simp at q
      · exact beq_iff_eq.mp e
    refine wpAny_bind ((PySem.W.looks_subIn X e).here ?_)
    simp only [Bool.false_eq_true, if_false]
    refine wpAny_bind (wpAny_mono one (fun r s' z => ?_) fun _ _ e => e)
    obtain ⟨v, rfl, hq⟩ := z
    exact wpAny_pure hq
  · refine wpAny_bind (wpAny_pure ?_)
    simp only [Bool.false_eq_true, if_false]
    refine wpAny_bind (wpAny_mono one (fun r s' z => ?_) fun _ _ e => e)
    obtain ⟨v, rfl, hq⟩ := z
    exact wpAny_pure hq
/-- what a text's making asks of an own __str__ -/
theorem strOf_K {Q : Value → Shared → Prop} (hu : A.units < cLine) (X : K.In s.heap) (I : PySem.W.InstAt s.heap x ox C od) (hs : PySem.W.findIn K (.ref C) "__str__" = some (some (.ref f))) (hf : PySem.W.isFn K (.ref f) = true)
    (h : wpAny (model prog w) A (call (.ref f) [.ref x]) (fun r s₁ => ∃ y t, r = Value.str y t ∧ Q r s₁) E s) : wpAny (model prog w) A (Builtin.Str.strOf (.ref x)) Q E s := by
  unfold Builtin.Str.strOf
  rw [show Builtin.Str.isExactStr (.ref x) = false from rfl]
  refine wpAny_bind (wpAny_cRoomFor hu ?_)
  refine wpAny_bind (m := callSpecial? (.ref x) (Str.ofString "__str__")) (PySem.W.special_fn X I hs (beq_iff_eq.mp hf) (wpAny_mono h (fun r s' hr => ?_) fun _ _ y => y))
  obtain ⟨y, t, rfl, hq⟩ := hr
  exact wpAny_bind (wpAny_pure (wpAny_pure hq))
theorem str_K {Q : Value → Shared → Prop} (hu : A.in1.in1.units < cLine) (X : K.In s.heap) (I : PySem.W.InstAt s.heap x ox C od) (hs : PySem.W.findIn K (.ref C) "__str__" = some (some (.ref f))) (hf : PySem.W.isFn K (.ref f) = true)
    (h : wpAny (model prog w) A.in1.in1 (call (.ref f) [.ref x]) (fun r s₁ => ∃ y t, r = Value.str y t ∧ Q r s₁) E s) : wpAny (model prog w) A (call (.type "str") [.ref x]) Q E s := by
  refine callType_codes (T := "str") (Bi := Builtin.«object.__init__») (Q₁ := fun r s₁ => ∃ y t, r = Value.str y t ∧ Q r s₁) PySem.F.called_str (PySem.F.typeCall_str_1 _) PySem.F.entry_object_init ?_ ?_
  · refine codeAny_of_tree ?_
    show wpAny _ A.in1.in1 (do checkBuiltinCall "str.__new__" ⟨[.type "str", .ref x], []⟩; again (.builtin "str.__new__" ⟨[.type "str", .ref x], []⟩)) _ _ s
    refine wpAny_bind (wpAny_of_eq (PySem.F.newCall_str_1 _) (wpAny_pure ⟨plainId_quiet (by decide +kernel) _, codeAny_builtin PySem.F.entry_str_new ?_⟩))
    rw [Around.under_plainId (by decide +kernel) _, str_new_tree]
    refine wpAny_bind (wpAny_pure ?_)
    refine wpAny_bind (wpAny_of_eq isSubtype_str_str ?_)
    exact wpAny_bind (strOf_K hu X I hs hf (wpAny_mono h (fun r s₁ ⟨y, t, e, hq⟩ => ⟨y, t, e, wpAny_pure ⟨y, t, e, hq⟩⟩) fun _ _ y => y))
  · rintro obj s₁ ⟨y, t, rfl, hq⟩
    exact ⟨typeIs_str _ _ _, PySem.F.args_object_init_2 _ _, object_init_meets PySem.F.called_str.init.lookup PySem.F.called_str.made (by decide) prog w A.in1 _ s₁ ⟨typeIs_str _ _ _, rfl, hq⟩⟩
end
section
variable {X : Cx} {E : Ev} {N : List Str} {sc : Scope} {fl : Bool} {k k' : Nat} {x m : Str} {ps : List Str} {sp : SpX} {M : Mp} {Q : VQ} {a : Addr} {fs : List (Str × VV)} {y : VV}
/-- a method of x run below the running body, nothing raised -/
theorem run_own (B : E.bd N sc fl k X) (F : E.mtx k' x m ps sp) {A : Around} (hr : Room k' A) (hfr : A.frames = X.A.frames) {pins : List (Addr × Obj)} {σ : L2.St} {H : Hp} {s : Shared} (I : Inv X pins σ H s) {vs : List V} {us : List Value} {ws : List VV}
    (mm : SimM X.K M H) (rv : Rvs X.K H vs ws) (ru : Vals vs us) (hl : vs.length = ps.length) (h : sp ws M Q noX) : wpAny (model X.prog X.w) A (call (.ref (He.ma E.K (He.ga E.K x) m)) us) (EP X pins σ (PoE X.K H Q)) X.xe s := by
  obtain ⟨P, w, K, mg, base, CX, hp⟩ := E
  obtain ⟨fd, F1, hb⟩ := F
  obtain ⟨rfl, rfl, rfl, rfl, rfl, rfl, rfl, _, room, pas, _⟩ := B
  have hsp : toSpX X.K sp vs H (PoE X.K H Q) E0 := ⟨ws, M, Q, noX, mm, rv, h, fun u M' v H' q t2 m2 r2 => ⟨u, M', t2, m2, r2, q⟩, fun _ _ _ _ z => z.elim⟩
  have e0 : Env0 X.prog X.w X.K X.mg X.base A X.stack s H := by
    have e := I.env0
    exact ⟨by rw [hfr]; exact e.frames, e.mod, e.bs, e.bsz, e.funs, e.frf, e.hok, e.bare⟩
  have hb2 := hb s us I.kIn (by rw [List.append_nil, ← ru.length]; exact hl)
  refine wpAny_call (codeAny_mono (F1.run A X.stack s H ⟨us, []⟩ us vs _ E0 hr e0 (by simpa using hb2) ru hsp) fun r s' hq => ?_)
  cases r with
  | error e => exact (pas X rfl rfl) pins σ H s e s' I hq
  | ok fl =>
    cases fl with
    | ret w => exact I.after hq
    | next => exact False.elim hq
    | brk => exact False.elim hq
    | cont => exact False.elim hq
theorem ins_at {pins : List (Addr × Obj)} {σ : L2.St} {H : Hp} {s : Shared} (I : Inv X pins σ H s) {C dx : Addr} {gs : List (Str × V)} (e : H a = some (.ins C dx gs)) : ∃ ox od, PySem.W.InstAt s.heap a ox C (some od) := by
  obtain ⟨mA, J, _⟩ := ins_get I.hok e
  obtain ⟨od, J, _⟩ := J.look
  exact ⟨_, _, J⟩
/-- the other side's type -/
inductive TB (M : Mp) : VV → Value → Prop
  | ins {b C gs} : M b = some (.ins C gs) → TB M (.ref b) (.ref C)
  | int (i) : TB M (.int i) (.type "int")
  | str (i) : TB M (.str i) (.type "str")
  | non : TB M .non (.type "NoneType")
theorem TB.looks {w : VV} {tb : Value} (h : TB M w tb) {pins : List (Addr × Obj)} {σ : L2.St} {H : Hp} {s : Shared} (I : Inv X pins σ H s) (mm : SimM X.K M H) {v : V} {u : Value} (r : Rv X.K H v w) (ru : RelV v u) : PySem.W.Looks (model X.prog X.w) s.heap (typeOf u) tb := by
  cases h with
  | ins e =>
    cases r; cases ru
    obtain ⟨dx, gs, h1, _⟩ := mm _ _ e
    obtain ⟨ox, od, J⟩ := ins_at I h1
    exact J.type
  | int i => cases r; obtain ⟨t, rfl⟩ := ru; exact PySem.W.Looks.of_pure rfl
  | str i => cases r; obtain ⟨t, rfl⟩ := ru; exact PySem.W.Looks.of_pure rfl
  | non => cases r; cases (show u = Value.none from ru); exact PySem.W.Looks.of_pure rfl
theorem notFirst_self {K : PySem.W.Frag} {C : Addr} : PySem.W.notFirst K C (.ref C) = true := by simp [PySem.W.notFirst]
theorem o2_eqOwn (B : E.bd N sc fl k X) (F : E.mtx k' x "__eq__" ["self", "other"] sp) (hm : Meth E.K (He.ga E.K x) "__eq__" (He.ma E.K (He.ga E.K x) "__eq__")) (hk : k' ≤ k) {tb : Value} (ma : M a = some (.ins (He.ga E.K x) fs)) (hy : TB M y tb) (hn : PySem.W.notFirst E.K (He.ga E.K x) tb = true)
    (h : sp [.ref a, y] M (fun u M' => ∃ k, u = .bl k ∧ Q (.bl k) M') noX) : O2 X (compareOp .Eq) (.ref a) y M Q := fun H v u mm r1 r2 pins s σ v1 u1 I z1 z2 => by
  cases r1; cases z1
  have eK := B.eK
  obtain ⟨dx, gs, h1, _⟩ := mm _ _ ma
  obtain ⟨ox, od, J⟩ := ins_at I h1
  obtain ⟨fr, hF⟩ := I.fr
  have hu := B.room.units
  show wpAny (model X.prog X.w) X.A (richCompare .Eq (.ref a) u1) _ _ _
  refine PySem.W.cmp_K (op := .Eq) (by omega) hF I.ok.mod.kin J (hy.looks I mm r2 z2) (by rw [eK]; exact hn) (by rw [eK]; exact hm.at_) (by rw [eK]; exact hm.fn) ?_
  refine wpAny_mono (run_own B F (B.room.mono hk) rfl I mm (.cons (.ref a) (.cons r2 .nil)) (.cons rfl (.cons z2 .nil)) rfl h) (fun r s' ⟨v', H', I', rv', u', M', t', m', rr, k, eu, q⟩ => ?_) fun _ _ e => e
  subst eu; cases rr
  cases (show r = Value.bool k from rv')
  exact ⟨.bl k, H', I', rfl, .bl k, M', t', m', .bl k, q⟩
theorem o2_neOwn (B : E.bd N sc fl k X) (F : E.mtx k' x "__eq__" ["self", "other"] sp) (hm : Meth E.K (He.ga E.K x) "__eq__" (He.ma E.K (He.ga E.K x) "__eq__")) (hne : PySem.W.findIn E.K (.ref (He.ga E.K x)) "__ne__" = some (some (.builtin "object.__ne__"))) (hmo : PySem.W.mroIn E.K (He.ga E.K x) (.type "object") = some true) (hk : k' + 1 ≤ k) {tb : Value} (ma : M a = some (.ins (He.ga E.K x) fs)) (hy : TB M y tb) (hn : PySem.W.notFirst E.K (He.ga E.K x) tb = true)
    (h : sp [.ref a, y] M (fun u M' => ∃ k, u = .bl k ∧ Q (.bl (!k)) M') noX) : O2 X (compareOp .NotEq) (.ref a) y M Q := fun H v u mm r1 r2 pins s σ v1 u1 I z1 z2 => by
  cases r1; cases z1
  have eK := B.eK
  obtain ⟨dx, gs, h1, _⟩ := mm _ _ ma
  obtain ⟨ox, od, J⟩ := ins_at I h1
  have hu := B.room.units
  have hr := (B.room.mono hk).in1
  show wpAny (model X.prog X.w) X.A (richCompare .NotEq (.ref a) u1) _ _ _
  refine ne_K (by omega) (by have := hr.units; omega) I.kIn J (hy.looks I mm r2 z2) (by rw [eK]; exact hn) (by rw [eK]; exact hmo) (by rw [eK]; exact hne) (by rw [eK]; exact hm.at_) (by rw [eK]; exact hm.fn) ?_
  refine wpAny_mono (run_own B F hr rfl I mm (.cons (.ref a) (.cons r2 .nil)) (.cons rfl (.cons z2 .nil)) rfl h) (fun r s' ⟨v', H', I', rv', u', M', t', m', rr, k, eu, q⟩ => ?_) fun _ _ e => e
  subst eu; cases rr
  cases (show r = Value.bool k from rv')
  exact ⟨k, rfl, .bl (!k), H', I', rfl, .bl (!k), M', t', m', .bl (!k), q⟩
theorem oc_reprOwn (B : E.bd N sc fl k X) (F : E.mtx k' x "__repr__" ["self"] sp) (hm : Meth E.K (He.ga E.K x) "__repr__" (He.ma E.K (He.ga E.K x) "__repr__")) (hk : k' + 1 ≤ k) (ma : M a = some (.ins (He.ga E.K x) fs))
    (h : sp [.ref a] M (fun u M' => ∃ k, u = .str k ∧ Q (.str k) M') noX) : OC X (.builtin "repr") [.ref a] M Q := fun H vs mm r pins s σ us I rr => by
  cases r with
  | cons r1 r2 =>
    cases r1; cases r2
    obtain ⟨u1, rfl, z1⟩ := vals1 rr
    cases z1
    have eK := B.eK
    obtain ⟨dx, gs, h1, _⟩ := mm _ _ ma
    obtain ⟨ox, od, J⟩ := ins_at I h1
    obtain ⟨fr, hF⟩ := I.fr
    have hr := (B.room.mono hk).in1
    refine PySem.W.repr_K (by have := hr.units; omega) hF I.ok.mod.kin J (by rw [eK]; exact hm.at_) (by rw [eK]; exact hm.fn) ?_
    refine wpAny_mono (run_own B F hr rfl I mm (.cons (.ref a) .nil) (.cons rfl .nil) rfl h) (fun r s' ⟨v', H', I', rv', u', M', t', m', rr, k, eu, q⟩ => ?_) fun _ _ e => e
    subst eu; cases rr
    obtain ⟨t, rfl⟩ := rv'
    exact ⟨.str k, H', I', ⟨t, rfl⟩, .str k, M', t', m', .str k, q⟩
theorem oc_strOwn (B : E.bd N sc fl k X) (F : E.mtx k' x "__str__" ["self"] sp) (hm : Meth E.K (He.ga E.K x) "__str__" (He.ma E.K (He.ga E.K x) "__str__")) (hk : k' + 2 ≤ k) (ma : M a = some (.ins (He.ga E.K x) fs))
    (h : sp [.ref a] M (fun u M' => ∃ k, u = .str k ∧ Q (.str k) M') noX) : OC X (.type "str") [.ref a] M Q := fun H vs mm r pins s σ us I rr => by
  cases r with
  | cons r1 r2 =>
    cases r1; cases r2
    obtain ⟨u1, rfl, z1⟩ := vals1 rr
    cases z1
    have eK := B.eK
    obtain ⟨dx, gs, h1, _⟩ := mm _ _ ma
    obtain ⟨ox, od, J⟩ := ins_at I h1
    have hr := (Room.mono B.room (show (k' + 1) + 1 ≤ k by omega)).in1.in1
    refine str_K (by have := hr.units; omega) I.kIn J (by rw [eK]; exact hm.at_) (by rw [eK]; exact hm.fn) ?_
    refine wpAny_mono (run_own B F hr rfl I mm (.cons (.ref a) .nil) (.cons rfl .nil) rfl h) (fun r s' ⟨v', H', I', rv', u', M', t', m', rr, k, eu, q⟩ => ?_) fun _ _ e => e
    subst eu; cases rr
    obtain ⟨t, rfl⟩ := rv'
    exact ⟨k, t, rfl, .str k, H', I', ⟨t, rfl⟩, .str k, M', t', m', .str k, q⟩
theorem oc_lenOwn (B : E.bd N sc fl k X) (F : E.mtx k' x "__len__" ["self"] sp) (hm : Meth E.K (He.ga E.K x) "__len__" (He.ma E.K (He.ga E.K x) "__len__")) (hk : k' + 1 ≤ k) (ma : M a = some (.ins (He.ga E.K x) fs))
    (h : sp [.ref a] M (fun u M' => ∃ n : Nat, u = .int n ∧ n < 2 ^ 62 ∧ Q (.int n) M') noX) : OC X (.builtin "len") [.ref a] M Q := fun H vs mm r pins s σ us I rr => by
  cases r with
  | cons r1 r2 =>
    cases r1; cases r2
    obtain ⟨u1, rfl, z1⟩ := vals1 rr
    cases z1
    have eK := B.eK
    obtain ⟨dx, gs, h1, _⟩ := mm _ _ ma
    obtain ⟨ox, od, J⟩ := ins_at I h1
    obtain ⟨fr, hF⟩ := I.fr
    have hr := (B.room.mono hk).in1
    refine PySem.W.len_K hF I.ok.mod.kin J (by rw [eK]; exact hm.at_) (by rw [eK]; exact hm.fn) ?_
    refine wpAny_mono (run_own B F hr rfl I mm (.cons (.ref a) .nil) (.cons rfl .nil) rfl h) (fun r s' ⟨v', H', I', rv', u', M', t', m', rr, n, eu, hn, q⟩ => ?_) fun _ _ e => e
    subst eu; cases rr
    obtain ⟨t, rfl⟩ := rv'
    exact ⟨⟨by omega, by omega⟩, .int n, H', I'.tok _, ⟨_, rfl⟩, .int n, M', t', m', .int n, q⟩
end
/-! f-strings, str of ints -/
section
variable {X : Cx} {e : Expr} {es : List Expr} {σ : St3} {M : Mp} {Q : VQ} {pos : Pos}
def SI (w : VV) (y : Str) : Prop := (w = .str y ∧ y.length ≤ sizeLine) ∨ ∃ i : Int, w = .int i ∧ i.natAbs.log2 < 1920 ∧ y = toString i
theorem we_fmt (h : WE X e σ M fun u M1 => ∃ y, SI u y ∧ Q (.str y) M1) : WE X (.FormattedValue e (-1) none pos) σ M Q := fun σ' H s m =>
  wE.of (pe_fmt wE.pe) (h.run s m fun v H1 u M1 t1 m1 r1 s1 ⟨y, si, q⟩ => by
    rcases si with ⟨rfl, hl⟩ | ⟨i, rfl, hz, rfl⟩
    · cases r1; exact .inl ⟨y, rfl, hl, .str y, M1, t1, m1, .str y, q⟩
    · cases r1; exact .inr ⟨i, rfl, hz, .str _, M1, t1, m1, .str _, q⟩)
def WJ (X : Cx) : List Expr → Str → St3 → Mp → (Str → Mp → Prop) → Prop
  | [], acc, _, M, Q => Q acc M
  | e :: es, acc, σ, M, Q => WE X e σ M fun u M1 => ∃ y : Str, u = .str y ∧ (acc ++ y).length ≤ sizeLine ∧ WJ X es (acc ++ y) σ M1 Q
theorem wj_nil {acc : Str} {Q : Str → Mp → Prop} (q : Q acc M) : WJ X [] acc σ M Q := q
theorem wj_cons {acc : Str} {Q : Str → Mp → Prop} (h : WE X e σ M fun u M1 => ∃ y : Str, u = .str y ∧ (acc ++ y).length ≤ sizeLine ∧ WJ X es (acc ++ y) σ M1 Q) : WJ X (e :: es) acc σ M Q := h
theorem wj_run : ∀ (es : List Expr) (acc : Str) (M : Mp) (Q : Str → Mp → Prop), WJ X es acc σ M Q → ∀ σ' H, Slots X.K H σ' σ → SimM X.K M H → tJs (es.map fun e => wE X e) acc σ' H fun out H1 => ∃ M1, TM H H1 ∧ SimM X.K M1 H1 ∧ Q out M1
  | [], acc, M, Q, h, σ', H, s, m => ⟨M, TM.refl, m, h⟩
  | e :: es, acc, M, Q, h, σ', H, s, m => by
    refine WE.run h s m fun v H1 u M1 t1 m1 r1 s1 ⟨y, eu, hz, q⟩ => ?_
    subst eu; cases r1
    refine ⟨y, rfl, hz, ?_⟩
    have := wj_run es (acc ++ y) M1 Q q σ' H1 s1 m1
    exact tJs_mono _ _ this fun out H2 ⟨M2, t2, m2, q2⟩ => ⟨M2, t1.trans t2, m2, q2⟩
where
  tJs_mono {σ' : L2.St} : ∀ (es : List Expr) (acc : Str) {H : Hp} {Q Q' : Str → Hp → Prop}, tJs (es.map fun e => wE X e) acc σ' H Q → (∀ o H, Q o H → Q' o H) → tJs (es.map fun e => wE X e) acc σ' H Q'
    | [], _, _, _, _, h, k => k _ _ h
    | e :: es, acc, H, Q, Q', h, k => wE.mono h fun v H1 ⟨y, a, b, c⟩ => ⟨y, a, b, tJs_mono es _ c k⟩
theorem pj_all : ∀ es : List Expr, PJ X es (es.map fun e => wE X e)
  | [] => .nil
  | e :: es => .cons wE.pe (pj_all es)
theorem we_joined {v1 v2 : Expr} {rest : List Expr} (h : WJ X (v1 :: v2 :: rest) Str.empty σ M fun out M1 => Q (.str out) M1) : WE X (.JoinedStr (v1 :: v2 :: rest) pos) σ M Q := fun σ' H s m =>
  wE.of (pe_joined (pj_all _)) (wj_run.tJs_mono _ _ (wj_run _ _ _ _ h σ' H s m) fun out H1 ⟨M1, t1, m1, q⟩ => ⟨.str out, M1, t1, m1, .str out, q⟩)
theorem oc_strI {i : Int} (hz : i.natAbs.log2 < 1920) (q : Q (.str (toString i)) M) : OC X (.type "str") [.int i] M Q := fun H vs m r => by
  cases r with | cons r1 r2 => cases r1; cases r2; exact wCall.of call_str_int ⟨i, rfl, hz, .str _, M, TM.refl, m, .str _, q⟩
theorem oc_strS {y : Str} (q : Q (.str y) M) : OC X (.type "str") [.str y] M Q := fun H vs m r => by
  cases r with | cons r1 r2 => cases r1; cases r2; exact wCall.of SkE.call_str_str ⟨y, rfl, .str _, M, TM.refl, m, .str _, q⟩
theorem oc_reprI {i : Int} (hz : i.natAbs.log2 < 1920) (q : Q (.str (toString i)) M) : OC X (.builtin "repr") [.int i] M Q := fun H vs m r => by
  cases r with | cons r1 r2 => cases r1; cases r2; exact wCall.of SkE.call_repr_int ⟨i, rfl, hz, .str _, M, TM.refl, m, .str _, q⟩
end
end G3

set_option Elab.async false
set_option linter.all false
set_option maxRecDepth 100000
set_option maxHeartbeats 4000000
/-! L3: classes made with keywords and defaults; isinstance of own classes -/
namespace G3
open PySem PySem.Spec L2
/-- a method's text, its keyword-only parameters with defaults -/
def TxMK (E : Ev) (x m : Str) (st : Stmt) (kws : List (Str × V)) : Prop := ∃ fd qual, FunD E.K m qual (defArgs st) (defBody st) (defScope st) [] kws (He.ma E.K (He.ga E.K x) m) fd
/-- a method's datum for the head -/
def dDmk (C m : Str) (st : Stmt) (qual : Str) (kws : List (Str × He.Dv)) : He.DefD := ⟨(C, some m), m, qual, defArgs st, defBody st, defScope st, [], kws⟩
theorem txmk_mk {E : Ev} {fa : List He.Fa} {fn : List He.DefD} (c : He.SaysD fa fn E.K) (i : Nat) {x m qual : Str} {st : Stmt} {kws : List (Str × He.Dv)} (hd : fn[i]? = some (dDmk x m st qual kws)) : TxMK E x m st (kws.map fun q => (q.1, q.2.v E.K)) := by
  obtain ⟨fd, F⟩ := c.def_ i hd
  exact ⟨fd, qual, F⟩
/-- the method m of x keeps sp, however it is called -/
def Ev.mfn (E : Ev) (k : Nat) (x m : Str) (ps : List Str) (sp : SpX) : Prop := ∃ fd, FnOk E.P E.w E.K E.mg E.base E.CX k (He.ma E.K (He.ga E.K x) m) fd ps (toSpX E.K sp) ∧ ∃ oc od osl, E.K.lookup (He.ma E.K (He.ga E.K x) m) = some ⟨oc, od, .func fd, osl⟩
theorem TxMK.mfn {E : Ev} (hX : E.xc) {x m : Str} {st : Stmt} {kws : List (Str × V)} {ps : List Str} (T : TxMK E x m st kws) (N : List Str) {k : Nat} {sp : SpX} (S : FnScope N ps (defScope st)) (len : ∀ ws M Q R, sp ws M Q R → ws.length = ps.length)
    (body : ∀ X : Cx, E.bd N (defScope st) true k X → Stk X → ∀ ws M Q R, sp ws M Q R → Tk X (fun cls d _ M' => ∃ M0, LeM M0 M' ∧ R cls d M0) → WSs X (defBody st) (ws.map some ++ List.replicate (N.length - ws.length) none) M
      { nx := fun _ M' => ∃ M0, LeM M0 M' ∧ Q .non M0, rt := fun u M' => ∃ M0, LeM M0 M' ∧ Q u M0 }) : E.mfn (k + 1) x m ps sp := by
  obtain ⟨fd, qual, F⟩ := T
  exact ⟨fd, fnx_of hX F N S len body, FunD.there F⟩
/-- what a call with n values and the keywords ks hands in: gW of both lists -/
def Ev.mbn (E : Ev) (x m : Str) (ps : List Str) (n : Nat) (ks : List Str) (gW : List VV → List VV → List VV) : Prop := ∃ fd, (∃ oc od osl, E.K.lookup (He.ma E.K (He.ga E.K x) m) = some ⟨oc, od, .func fd, osl⟩) ∧ ∃ g gV, KBn E.K fd ps n ks g gV ∧ ∀ H vs ws zs us, Rvs E.K H vs ws → Rvs E.K H zs us → Rvs E.K H (gV vs zs) (gW ws us)
theorem TxMK.mbn {E : Ev} {x m : Str} {st : Stmt} {kws : List (Str × V)} {ps : List Str} (T : TxMK E x m st kws) (n : Nat) (ks : List Str) (ms : List (Str × V)) (dws : List VV) (g : {α : Type} → List α → List α → List α → List α) (hk : kws ≠ []) (hms : ∀ q ∈ ms, q ∈ kws)
    (hd : ∀ H, Rvs E.K H (ms.map (·.2)) dws)
    (hrel : ∀ {vs mz zs : List V} {us mv ws : List Value}, Vals vs us → Vals mz mv → Vals zs ws → Vals (g vs mz zs) (g us mv ws))
    (hrel2 : ∀ {H : Hp} {vs mz zs : List V} {us mv ws : List VV}, Rvs E.K H vs us → Rvs E.K H mz mv → Rvs E.K H zs ws → Rvs E.K H (g vs mz zs) (g us mv ws))
    (h : ∀ (qual : Str) (D : Addr) (doc pm : Value) (an : Option Addr) (cdv ct : Value) (us mv ws : List Value), us.length = n → mv.length = ms.length → ws.length = ks.length →
      KwChain D ((ms.map (·.1)).zip mv) (bindArgs (PySem.W.fnOf m qual (defArgs st) (defBody st) (defScope st) .none (.ref D) doc pm an cdv ct) ⟨us, ks.zip ws⟩) (ps.zip (g us mv ws))) : E.mbn x m ps n ks (fun vs zs => g vs dws zs) := by
  obtain ⟨fd, qual, F⟩ := T
  obtain ⟨mv, hb⟩ := FunD.kbinds0 (ps := ps) F n ks ms g hk hms hrel (h qual)
  exact ⟨fd, FunD.there F, _, _, hb, fun H vs ws zs us r1 r2 => hrel2 r1 (hd H) r2⟩
section
variable {X : Cx} {E : Ev} {e : Expr} {es : List Expr} {kws : List Keyword} {σ : St3} {M : Mp} {Q : VQ} {pos p : Pos} {x m : Str} {N : List Str} {sc : Scope} {fl : Bool} {k k' n : Nat} {ps ks : List Str} {sp : SpX} {R : XQ3} {gW : List VV → List VV → List VV}
theorem run_makeKS {CX : CXT} {f C : Addr} {fd : FuncData} {sp : Sp} {E : XK} {g : List Value → List Value → List Value} {gV : List V → List V → List V} {pins : List (Addr × Obj)} {σ : L2.St} {H : Hp} {s : Shared} {Q : VK} {us ws : List Value} {vs zs : List V} (M : Mk X.K C f) (F : FnOk X.prog X.w X.K X.mg X.base CX k f fd ps sp) (hr : Room (k + 1) X.A) (hb : KBn X.K fd ps (n + 1) ks g gV) (hx : PassesAt CX X σ E)
    (I : Inv X pins σ H s) (r : Vals vs us) (rz : Vals zs ws) (l1 : vs.length = n) (l2 : zs.length = ks.length)
    (h : ∀ x dx, H x = none → H dx = none → dx ≠ x → sp (gV (.ref x :: vs) zs) (upd (upd H dx (.own x)) x (.ins C dx [])) (fun v H2 => v = .non ∧ Q (.ref x) H2) E) :
    wpAny (model X.prog X.w) X.A (call (.ref C) us (ks.zip ws)) (EP X pins σ Q) X.xe s := by
  have hq := h (s.heap.objs.size + 1) s.heap.objs.size (I.hok.fresh (Nat.le_succ _)) (I.hok.fresh (Nat.le_refl _)) (Nat.ne_of_lt (Nat.lt_succ_self _))
  have I2 := Inv.made (C := C) I
  have r1 : Vals (V.ref (s.heap.objs.size + 1) :: vs) (Value.ref (s.heap.objs.size + 1) :: us) := .cons rfl r
  have r2 := hb.rel r1 rz
  have n1 : (Value.ref (s.heap.objs.size + 1) :: us).length = n + 1 := by
    rw [List.length_cons, ← r.length, l1]
  refine wpAny_call (make_map (f := f) I.kIn M.makes M.init (beq_iff_eq.mp M.fn) (codeAny_mono (F.run _ X.stack _ _ ⟨Value.ref (s.heap.objs.size + 1) :: us, ks.zip ws⟩ (g (Value.ref (s.heap.objs.size + 1) :: us) ws) _ _ E (hr.make C us (ks.zip ws))
    (I2.env0.make C us (ks.zip ws)) (hb.to _ (Value.ref (s.heap.objs.size + 1) :: us) ws I2.kIn n1 (rz.length.symm.trans l2)) r2 hq) fun r s' hq' => ?_))
  cases r with
  | error e => exact hx pins _ _ e s' I2 hq'
  | ok fl =>
    cases fl with
    | ret u =>
      obtain ⟨v, H', I3, rv, ev, q3⟩ := I2.after hq'
      subst ev
      exact ⟨rv, ⟨V.ref (s.heap.objs.size + 1), H', I3, rfl, q3⟩⟩
    | next => exact False.elim hq'
    | brk => exact False.elim hq'
    | cont => exact False.elim hq'
/-- C(e, .., k = v, ..), where it may raise -/
theorem we_makeKX (hX : E.xc) (B : E.bd N sc fl k X) (Mk' : Mk E.K (He.ga E.K x) (He.ma E.K (He.ga E.K x) "__init__")) (F : E.mfn k' x "__init__" ps sp) (G : E.mbn x "__init__" ps (n + 1) ks gW) (hk : k' + 1 ≤ k) (hg : sc.names.lookup x = some .globalImplicit) (hmg : E.mg x = some (.ref (He.ga E.K x))) (tk : Tk X R)
    (h : WA X (e :: es) σ M fun us M1 => WK X kws σ M1 fun zs M2 => us.length = n ∧ zs.length = ks.length ∧ ∀ a, M2 a = none → sp (gW (.ref a :: us) zs) (updM M2 a (.ins (He.ga E.K x) [])) (fun u M3 => u = .non ∧ Q (.ref a) M3) (fun cls d M' => R cls d σ M'))
    (hall : (backToKw pos (keywordEach kws X.env)).all (·.1.isSome) = true := by rfl) (hks : (backToKw pos (keywordEach kws X.env)).filterMap (·.1) = ks := by rfl) (hdb : (x == ("__debug__" : Str)) = false := by decide)
    (he : starEach (e :: es) X.env = (false, eval e X.env) :: starEach es X.env := by rfl) (hpl : ((backTo pos (starEach (e :: es) X.env)).any (·.1) || (backToKw pos (keywordEach kws X.env)).any (·.1.isNone)) = false := by rfl) :
    WE X (.Call (.Name x p) (e :: es) kws pos) σ M Q := by
  obtain ⟨P, w, K, mg, base, CX, hp⟩ := E
  have hX' : CX = L2.CX P w := hX
  subst hX'
  obtain ⟨fd, F1, _, _, _, lk⟩ := F
  obtain ⟨fd', ⟨_, _, _, lk'⟩, g, gV, hb, grel⟩ := G
  have ef := lk.symm.trans lk'
  cases ef
  obtain ⟨rfl, rfl, rfl, rfl, rfl, rfl, rfl, _, room, pas, _⟩ := B
  obtain ⟨W, tW, hW⟩ := tk
  intro σ' H s mm pins st I
  have t0 := TM.of_inv I
  refine wpAny_Call_Name_kw (ld_glob I hg hmg ?_ hdb)
  refine PySem.W.callWith_KW (h₀ := X.base) I.ok.mod.kin Mk'.kp hall (thn ((wA.pa (X := X) (e := e :: es)).run pos pins st σ' H _ I (h σ' H s mm)) fun us s1 ⟨vs, H1, I1, r, ws, M1, t1, m1, r1, q⟩ => ?_) hpl he
  refine thn ((wK.pk (X := X) (kws := kws)).run pos pins s1 σ' H1 _ I1 (q σ' H1 (s.mono t1) m1)) fun zs s2 ⟨zvs, H2, I2, rz, zw, M2, t2, m2, rz2, l1, l2, q2⟩ => ⟨I2.kIn, ?_⟩
  rw [hks]
  have r1' := Rvs.mono t2 _ _ r1
  refine run_makeKS (E := fun cls d H => W cls d σ' H) Mk' F1 (room.mono hk) hb (passAt tW σ') I2 r rz (by rw [r1.length]; exact l1) (by rw [rz2.length]; exact l2) fun a dx ha hd hne => ?_
  obtain ⟨t3, m3⟩ := sim_new (C := He.ga X.K x) m2 ha hd hne
  exact ⟨_, _, _, _, m3, grel _ _ _ _ _ (.cons (.ref a) (Rvs.mono t3 _ _ r1')) (Rvs.mono t3 _ _ rz2), q2 a (m2.no ha), fun u M' v H' ⟨eu, q⟩ t4 m4 r4 => by subst eu; cases r4; exact ⟨rfl, .ref a, M', ((t1.trans t2).trans t3).trans t4, m4, .ref a, q⟩,
    fun cls d M' H' q t4 m4 => hW cls d σ' σ H' M' (t0.trans (((t1.trans t2).trans t3).trans t4)) (s.mono (((t1.trans t2).trans t3).trans t4)) m4 q⟩
/-- C(k = v, ..) -/
theorem we_makeKX0 (hX : E.xc) (B : E.bd N sc fl k X) (Mk' : Mk E.K (He.ga E.K x) (He.ma E.K (He.ga E.K x) "__init__")) (F : E.mfn k' x "__init__" ps sp) (G : E.mbn x "__init__" ps 1 ks gW) (hk : k' + 1 ≤ k) (hg : sc.names.lookup x = some .globalImplicit) (hmg : E.mg x = some (.ref (He.ga E.K x))) (tk : Tk X R)
    (h : WK X kws σ M fun zs M2 => zs.length = ks.length ∧ ∀ a, M2 a = none → sp (gW [.ref a] zs) (updM M2 a (.ins (He.ga E.K x) [])) (fun u M3 => u = .non ∧ Q (.ref a) M3) (fun cls d M' => R cls d σ M'))
    (hall : (backToKw pos (keywordEach kws X.env)).all (·.1.isSome) = true := by rfl) (hks : (backToKw pos (keywordEach kws X.env)).filterMap (·.1) = ks := by rfl) (hdb : (x == ("__debug__" : Str)) = false := by decide)
    (hpl : ((backTo pos (starEach [] X.env)).any (·.1) || (backToKw pos (keywordEach kws X.env)).any (·.1.isNone)) = false := by rfl) :
    WE X (.Call (.Name x p) [] kws pos) σ M Q := by
  obtain ⟨P, w, K, mg, base, CX, hp⟩ := E
  have hX' : CX = L2.CX P w := hX
  subst hX'
  obtain ⟨fd, F1, _, _, _, lk⟩ := F
  obtain ⟨fd', ⟨_, _, _, lk'⟩, g, gV, hb, grel⟩ := G
  have ef := lk.symm.trans lk'
  cases ef
  obtain ⟨rfl, rfl, rfl, rfl, rfl, rfl, rfl, _, room, pas, _⟩ := B
  obtain ⟨W, tW, hW⟩ := tk
  intro σ' H s mm pins st I
  have t0 := TM.of_inv I
  refine wpAny_Call_Name_kw (ld_glob I hg hmg ?_ hdb)
  refine PySem.W.callWith_KW0 (h₀ := X.base) I.ok.mod.kin Mk'.kp hall ?_ hpl
  refine thn ((wK.pk (X := X) (kws := kws)).run pos pins st σ' H _ I (h σ' H s mm)) fun zs s2 ⟨zvs, H2, I2, rz, zw, M2, t2, m2, rz2, l2, q2⟩ => ⟨I2.kIn, ?_⟩
  rw [hks]
  refine run_makeKS (E := fun cls d H => W cls d σ' H) (us := []) (vs := []) Mk' F1 (room.mono hk) hb (passAt tW σ') I2 .nil rz rfl (by rw [rz2.length]; exact l2) fun a dx ha hd hne => ?_
  obtain ⟨t3, m3⟩ := sim_new (C := He.ga X.K x) m2 ha hd hne
  exact ⟨_, _, _, _, m3, grel _ _ _ _ _ (.cons (.ref a) .nil) (Rvs.mono t3 _ _ rz2), q2 a (m2.no ha), fun u M' v H' ⟨eu, q⟩ t4 m4 r4 => by subst eu; cases r4; exact ⟨rfl, .ref a, M', (t2.trans t3).trans t4, m4, .ref a, q⟩,
    fun cls d M' H' q t4 m4 => hW cls d σ' σ H' M' (t0.trans ((t2.trans t3).trans t4)) (s.mono ((t2.trans t3).trans t4)) m4 q⟩
end
/-! isinstance with an own class -/
/-- what isinstance asks of the class at C -/
structure CFac (K : PySem.W.Frag) (C : Addr) : Prop where
  cl : Cls K C
  ha : PySem.W.findIn K (.ref C) "__class__" = some (some (.builtin "object.__class__"))
  hn : PySem.W.specialIn K (.builtin "object.__class__") "__get__" = some (some (.builtin "getset_descriptor.__get__"))
  ht : PySem.W.takesIn K (.builtin "object.__class__") = some true
  hm : PySem.W.mroIn K C (.type "object") = some true
def cfacB (K : PySem.W.Frag) (C : Addr) : Bool := decide (PySem.W.findIn K (.ref C) "__class__" = some (some (.builtin "object.__class__"))) && decide (PySem.W.specialIn K (.builtin "object.__class__") "__get__" = some (some (.builtin "getset_descriptor.__get__"))) && decide (PySem.W.takesIn K (.builtin "object.__class__") = some true) && decide (PySem.W.mroIn K C (.type "object") = some true)
theorem cfacB_ok {K : PySem.W.Frag} {C : Addr} (c : Cls K C) (h : cfacB K C = true) : CFac K C := by
  unfold cfacB at h
  simp only [Bool.and_eq_true, decide_eq_true_eq] at h
  exact ⟨c, h.1.1.1, h.1.1.2, h.1.2, h.2⟩
inductive TyC (K : PySem.W.Frag) (M : Mp) : VV → Value → Prop
  | base {w T} : TyW M w T → TyC K M w (.type T)
  | ins {a C fs} : M a = some (.ins C fs) → CFac K C → TyC K M (.ref a) (.ref C)
theorem TyC.x {K : PySem.W.Frag} {M : Mp} {H : Hp} {w T v} (h : TyC K M w T) (m : SimM K M H) (r : Rv K H v w) : TyX K H v T := by
  cases h with
  | base h => exact h.x m r
  | ins e c => cases r; obtain ⟨dx, gs, h1, _⟩ := m _ _ e; exact .base (.ins h1 c.cl c.ha c.hn c.ht c.hm)
theorem oc_isiC {X : Cx} {M : Mp} {Q : VQ} {w T C} {b : Bool} (h : TyC X.K M w T) (e : PySem.W.kitOne X.K T (.ref C) = some b) (q : Q (.bl b) M) : OC X (.builtin "isinstance") [w, .ref C] M Q := fun H vs m r => by
  cases r with
  | cons r1 r2 =>
    cases r2 with
    | cons r3 r4 =>
      cases r3; cases r4
      exact wCall.of call_isi ⟨_, _, _, _, b, rfl, .own C, h.x m r1, e, .mk m (.bl _) q⟩
theorem oc_isiT {X : Cx} {M : Mp} {Q : VQ} {w T n} {b : Bool} (h : TyC X.K M w T) (e : PySem.W.kitOne X.K T (.type n) = some b) (q : Q (.bl b) M) : OC X (.builtin "isinstance") [w, .ty n] M Q := fun H vs m r => by
  cases r with
  | cons r1 r2 =>
    cases r2 with
    | cons r3 r4 =>
      cases r3; cases r4
      exact wCall.of call_isi ⟨_, _, _, _, b, rfl, .ty n, h.x m r1, e, .mk m (.bl _) q⟩
end G3

set_option Elab.async false
set_option linter.all false
set_option maxRecDepth 100000
set_option maxHeartbeats 4000000
/-! grounds and lands in plain Lean; promises -/
namespace G3
open PySem PySem.Spec L2 PySem.W
abbrev vln (q : Str × List Str) : VV := .tup [.str q.1, .tup (q.2.map VV.str)]
abbrev vst (q : Str × Int) : VV := .tup [.str q.1, .int q.2]
structure Gd where
  spots : List (Str × Spt)
  lines : List (Str × (Str × List Str))
  sites : List (Str × (Str × Int))
structure GdOk (n : Nat) (g : Gd) : Prop where
  dn : (g.spots.map (·.1)).Nodup
  dl : (g.lines.map (·.1)).Nodup
  dt : (g.sites.map (·.1)).Nodup
  ls : g.spots.length ≤ 20
  ll : g.lines.length ≤ 20
  lt : g.sites.length ≤ 20
  sb : ∀ p ∈ g.spots, SB n p.2
  lb : ∀ p ∈ g.lines, p.2.2.length ≤ 20
def LandAt (C : Addr) (M : Mp) (a : Addr) (g : Gd) : Prop := ∃ x y z, M a = some (.ins C [("ground", .ref x), ("strokes", .ref y), ("stones", .ref z)]) ∧ M x = some (.dK (dS vsp g.spots)) ∧ M y = some (.dK (dS vln g.lines)) ∧ M z = some (.dK (dS vst g.sites))
theorem LandAt.le {C : Addr} {M M' : Mp} {a : Addr} {g : Gd} (h : LandAt C M a g) (l : LeM M M') : LandAt C M' a g := by
  obtain ⟨x, y, z, h1, h2, h3, h4⟩ := h
  exact ⟨x, y, z, l _ _ h1, l _ _ h2, l _ _ h3, l _ _ h4⟩
def hasS (g : Gd) (m : Str) : Bool := (getS g.spots m).isSome
def marksF (g : Gd) (n : Str) : List Str := ((getS g.lines n).map (·.2)).getD []
def knownF (g : Gd) : List Str := (srt (g.lines.map (·.1))).filter fun n => (marksF g n).all (hasS g)
def spotF (g : Gd) (m : Str) : Spt := (getS g.spots m).getD ((0, 1), (0, 1))
def rowF (g : Gd) (n : Str) : List Spt := (marksF g n).map (spotF g)
def goneF (g : Gd) (n : Str) : List Str := (marksF g n).filter fun m => !hasS g m
def stepsF (a b : Spt) : Rt := rsum (rabs (rdif a.1 b.1)) (rabs (rdif a.2 b.2))
def totF (xs : List Rt) : Rt := xs.foldl rsum (0, 1)
def lenF (g : Gd) (n : Str) : Rt := totF (((rowF g n).zip ((rowF g n).drop 1)).map fun p => stepsF p.1 p.2)
theorem foldW_id {κ : Type} [DecidableEq κ] : ∀ (ps kvs : List (κ × VV)), ((kvs ++ ps).map (·.1)).Nodup → foldW ps kvs = kvs ++ ps
  | [], kvs, _ => by simp [foldW]
  | p :: ps, kvs, h => by
    have hn : (kvs.any fun q => decide (q.1 = p.1)) = false := by
      rw [List.any_eq_false]
      intro q hq
      have h2 := h
      rw [List.map_append, List.nodup_append] at h2
      simp only [decide_eq_true_eq]
      exact h2.2.2 q.1 (List.mem_map.mpr ⟨q, hq, rfl⟩) p.1 (by simp)
    have e : putW kvs p.1 p.2 = kvs ++ [p] := by
      unfold putW
      rw [if_neg (by rw [hn]; exact Bool.false_ne_true)]
    show foldW ps (putW kvs p.1 p.2) = _
    rw [e, foldW_id ps (kvs ++ [p]) (by simpa using h)]
    simp
theorem foldW_dS {β : Type} (f : β → VV) {l : List (Str × β)} (h : (l.map (·.1)).Nodup) : foldW (dS f l) [] = dS f l := by
  have h2 : ((([] : List (Key × VV)) ++ dS f l).map (·.1)).Nodup := by
    rw [List.nil_append, dS_keys]
    exact List.Pairwise.map _ (fun a b hab z => hab (Sum.inr.inj z)) h
  rw [foldW_id _ _ h2]
  rfl
/-- the items of a locked dict of texts -/
theorem itm_itmS {β : Type} {M : Mp} {a : Addr} {L : MO} {f : β → VV} {l : List (Str × β)} (hl : M a = some L) (hz : l.length ≤ sizeLine) : Itm (itItm a L (dS f l)) M l (fun z y => y = .tup [.str z.1, f z.2]) :=
  ⟨by show (dS f l).length = _; rw [List.length_map], fun j u _ ⟨k, w, e, eu⟩ => by
    rw [List.getElem?_map] at e
    cases h : l[j]? with
    | none => rw [h] at e; cases e
    | some z => rw [h] at e; cases e; exact ⟨z, rfl, eu⟩, fun M' l' => l' _ _ hl, hz⟩
section
variable {X : Cx} {M : Mp} {Q : VQ}
theorem oc_tupleT {ws : List VV} (q : Q (.tup ws) M) : OC X (.type "tuple") [.tup ws] M Q := fun H vs m r => by
  cases r with
  | cons r1 r2 =>
    cases r2
    have r1' := r1
    obtain ⟨a, vs, rfl, h1, h2⟩ := r1.tupv
    exact wCall.of call_tuple_of ⟨a, vs, rfl, .inr ⟨h1, .mk m r1' q⟩⟩
end
def spTotal : Sp3 := fun ws M Q => ∃ (w : VV) (xs : List Rt), ws = [w] ∧ Lst M w (xs.map vr) ∧ xs.length ≤ 20 ∧ (∀ x ∈ xs, RB 100 x) ∧ Q (vr (totF xs)) M
def spSteps : Sp3 := fun ws M Q => ∃ a b : Spt, ws = [vsp a, vsp b] ∧ SB 20 a ∧ SB 20 b ∧ Q (vr (stepsF a b)) M
theorem totF_bits {xs : List Rt} (h : ∀ x ∈ xs, RB 100 x) : ∀ (n : Nat) (p : Rt), RB n p → RB (n + 101 * xs.length) (xs.foldl rsum p) := by
  induction xs with
  | nil => intro n p hp; exact hp
  | cons x xs ih =>
    intro n p hp
    have h1 := hp.sum (h x (by simp))
    have h2 := ih (fun y hy => h y (by simp [hy])) _ _ h1
    refine h2.mono ?_
    simp only [List.length_cons]
    omega
theorem stepsF_bits {a b : Spt} (ha : SB 20 a) (hb : SB 20 b) : RB 83 (stepsF a b) := (ha.x.dif hb.x).abs.sum (ha.y.dif hb.y).abs
/-! the land's methods -/
def spLandInit (C : Addr) : SpX := fun ws M Q _ => ∃ (a p1 p2 p3 : Addr) (g : Gd), ws = [.ref a, .ref p1, .ref p2, .ref p3] ∧ M a = some (.ins C []) ∧ M p1 = some (.dK (dS vsp g.spots)) ∧ M p2 = some (.dK (dS vln g.lines)) ∧ M p3 = some (.dK (dS vst g.sites)) ∧ GdOk 20 g ∧
  ∀ M', (∀ b o, M b = some o → b ≠ a → M' b = some o) → LandAt C M' a g → Q .non M'
def spKnown (C : Addr) : SpX := fun ws M Q _ => ∃ (a : Addr) (g : Gd), ws = [.ref a] ∧ LandAt C M a g ∧ GdOk 20 g ∧ ∀ p, M p = none → Q (.ref p) (updM M p (.lst ((knownF g).map .str)))
/-- what is told of a line, or refused: C1 NoLine, C2 Loose -/
def refD (w : Str) (u : VV) : List (Str × VV) := [("name", u), ("called", .str w)]
def spRow (C C1 C2 : Addr) : SpX := fun ws M Q R => ∃ (a : Addr) (n : Str) (g : Gd), ws = [.ref a, .str n] ∧ LandAt C M a g ∧ GdOk 20 g ∧
  (getS g.lines n = none → ∀ d, M d = none → R (.ref C1) (some d) (updM M d (.xd (refD "noline" (.str n))))) ∧
  (∀ q, getS g.lines n = some q → (∀ m r, goneF g n = m :: r → ∀ d, M d = none → R (.ref C2) (some d) (updM M d (.xd (refD "loose" (.str m))))) ∧ (goneF g n = [] → ∀ p, M p = none → Q (.ref p) (updM M p (.lst ((rowF g n).map vsp)))))
def spLength (C C1 C2 : Addr) : SpX := fun ws M Q R => ∃ (a : Addr) (n : Str) (g : Gd), ws = [.ref a, .str n] ∧ LandAt C M a g ∧ GdOk 20 g ∧
  (getS g.lines n = none → ∀ d, M d = none → R (.ref C1) (some d) (updM M d (.xd (refD "noline" (.str n))))) ∧
  (∀ q, getS g.lines n = some q → (∀ m r, goneF g n = m :: r → ∀ d, M d = none → R (.ref C2) (some d) (updM M d (.xd (refD "loose" (.str m))))) ∧ (goneF g n = [] → Q (vr (lenF g n)) M))
end G3

set_option Elab.async false
set_option linter.all false
set_option maxRecDepth 100000
set_option maxHeartbeats 4000000
/-! lands: small rules -/
namespace G3
open PySem PySem.Spec L2 PySem.W TL
theorem LeM.at {M M' : Mp} {p : Addr} {o : MO} (h : LeM M M') (e : M' p = some o) : LeM (updM M p o) M' := fun a u z => by
  by_cases c : a = p
  · subst c; rw [updM_same] at z; cases z; exact e
  · rw [updM_ne c] at z; exact h _ _ z
section
variable {β : Type} {X : Cx} {M : Mp} {Q : VQ} {P : Program} {w : World} {K : PySem.W.Frag} {mg : Str → Option Value} {base : Heap} {CX : CXT} {N : List Str} {sc : Scope} {fl : Bool} {k : Nat} {a : Addr} {l : List (Str × β)} {f : β → VV}
theorem oi_dS {n : Str} {b : β} (B : Bd P w K mg base CX N sc fl k X) (h : DkAt M a (dS f l)) (e : getS l n = some b) (q : Q (f b) M) : OI X (.ref a) (.str n) M Q :=
  oi_dic (z := f b) B (by have := Dg.k (.inr n) h; rw [dS_look, e] at this; exact this) q
theorem o2_inS {n : Str} (B : Bd P w K mg base CX N sc fl k X) (h : DkAt M a (dS f l)) (q : Q (.bl (getS l n).isSome) M) : O2 X (compareOp .In) (.str n) (.ref a) M Q :=
  o2_inD2 (o := lookW (dS f l) (.inr n)) B (Dg.k (.inr n) h) (by rw [dS_look, Option.isSome_map]; exact q)
theorem o2_ninS {n : Str} (B : Bd P w K mg base CX N sc fl k X) (h : DkAt M a (dS f l)) (q : Q (.bl (!(getS l n).isSome)) M) : O2 X (compareOp .NotIn) (.str n) (.ref a) M Q :=
  o2_ninD2 (o := lookW (dS f l) (.inr n)) B (Dg.k (.inr n) h) (by rw [dS_look, Option.isSome_map]; exact q)
end
/-- a text among texts -/
theorem dws_str {M : Mp} : ∀ ys : List Str, DWs M (ys.map VV.str) (ys.map PyData.str)
  | [] => .nil
  | y :: ys => .cons (.str y) (dws_str ys)
theorem marks_of {g : Gd} {n : Str} {q : Str × List Str} (h : getS g.lines n = some q) : marksF g n = q.2 := by unfold marksF; rw [h]; rfl
theorem spot_sb {g : Gd} (ok : GdOk 20 g) (m : Str) : SB 20 (spotF g m) := by
  unfold spotF
  cases h : getS g.spots m with
  | none => exact ⟨RB.zero.mono (by decide), RB.zero.mono (by decide)⟩
  | some s => exact ok.sb _ (getS_mem h)
theorem row_sb {g : Gd} (ok : GdOk 20 g) {n : Str} : ∀ s ∈ rowF g n, SB 20 s := fun s h => by
  obtain ⟨m, _, rfl⟩ := List.mem_map.mp h
  exact spot_sb ok m
theorem row_len {g : Gd} (ok : GdOk 20 g) {n : Str} {q : Str × List Str} (h : getS g.lines n = some q) : (rowF g n).length ≤ 20 := by
  unfold rowF
  rw [List.length_map, marks_of h]
  exact ok.lb _ (getS_mem h)
theorem gone_nil {g : Gd} {n : Str} (h : (marksF g n).all (hasS g) = true) : goneF g n = [] := by
  unfold goneF
  rw [List.filter_eq_nil_iff]
  intro m hm
  rw [List.all_eq_true.mp h m hm]
  decide
theorem gone_hd {g : Gd} {n : Str} {i : Nat} {m : Str} (h : ((marksF g n).take i).all (hasS g) = true) (e : (marksF g n)[i]? = some m) (hm : hasS g m = false) : ∃ r, goneF g n = m :: r := by
  have hi : i < (marksF g n).length := (List.getElem?_eq_some_iff.mp e).1
  have hs : marksF g n = (marksF g n).take i ++ m :: (marksF g n).drop (i + 1) := by
    have h1 := List.take_append_drop i (marksF g n)
    rw [List.drop_eq_getElem_cons hi] at h1
    rw [List.getElem?_eq_getElem hi] at e
    cases e
    exact h1.symm
  refine ⟨((marksF g n).drop (i + 1)).filter fun m => !hasS g m, ?_⟩
  unfold goneF
  conv => lhs; rw [hs]
  rw [List.filter_append, List.filter_cons]
  have e1 : ((marksF g n).take i).filter (fun m => !hasS g m) = [] := by
    rw [List.filter_eq_nil_iff]
    intro z hz
    rw [List.all_eq_true.mp h z hz]
    decide
  rw [e1, hm]
  rfl
/-- a name as the laws draw it -/
def nmB (x : Str) : Bool := decide (1 ≤ x.length) && decide (x.length ≤ 6) && (tl x).all fun c => decide (97 ≤ c) && decide (c ≤ 122)
def Nme (x : Str) : Prop := nmB x = true
theorem Nme.ok {x : Str} (h : Nme x) : PyData.strOk x = true := by
  unfold Nme nmB at h
  simp only [Bool.and_eq_true] at h
  show x.cps.all _ = true
  rw [← Array.all_toList, List.all_eq_true]
  intro c hc
  have := List.all_eq_true.mp h.2 c hc
  simp only [Bool.and_eq_true, decide_eq_true_eq] at this ⊢
  omega
theorem canLay_strs : ∀ xs : List Str, (∀ x ∈ xs, Nme x) → PyData.canLayAll0 (xs.map (PySem.W.Datum.toD (α := Str))) = true
  | [], _ => by simp only [List.map_nil, PyData.canLayAll0]
  | x :: xs, h => by
    rw [List.map_cons]
    show PyData.canLayAll0 (PyData.str x :: xs.map (PySem.W.Datum.toD (α := Str))) = true
    simp only [PyData.canLayAll0, PyData.canLay0, canLay_strs xs (fun y hy => h y (List.mem_cons_of_mem _ hy)), (h x (by simp)).ok, Bool.and_self]
theorem shaped_str {x : Str} (h : Nme x) : SeqAt.shaped (PySem.W.Datum.toD x) = true := by
  refine Bool.and_eq_true_iff.mpr ⟨?_, decide_eq_true (Nat.le_trans (PySem.W.Datum.depth_le x) (by decide))⟩
  show PyData.canLay0 (.str x) = true
  simp only [PyData.canLay0]
  exact h.ok
theorem shaped_strs {xs : List Str} (h : ∀ x ∈ xs, Nme x) : SeqAt.shaped (PySem.W.Datum.toD xs) = true := by
  refine Bool.and_eq_true_iff.mpr ⟨?_, decide_eq_true (Nat.le_trans (PySem.W.Datum.depth_le xs) (by decide))⟩
  show PyData.canLay0 (.list (xs.map PySem.W.Datum.toD)) = true
  simp only [PyData.canLay0]
  exact canLay_strs _ h
/-- letters joined -/
theorem joinL_nil : ∀ ps : List (List Nat), joinL [] ps = ps.flatten
  | [] => rfl
  | [p] => by simp [joinL]
  | p :: q :: r => by
    show p ++ ([] ++ joinL [] (q :: r)) = _
    rw [joinL_nil (q :: r)]
    simp
theorem nme_join {l : List Str} (h : ∀ s ∈ l, ∃ c, tl s = [c] ∧ 97 ≤ c ∧ c ≤ 122) (h1 : 1 ≤ l.length) (h6 : l.length ≤ 6) : Nme (Txt.join (Str.ofString "") l) := by
  have e : tl (Txt.join (Str.ofString "") l) = (l.map tl).flatten := by
    rw [join_eq, tl_join]
    exact joinL_nil _
  have len : ∀ l : List Str, (∀ s ∈ l, ∃ c, tl s = [c] ∧ 97 ≤ c ∧ c ≤ 122) → (l.map tl).flatten.length = l.length ∧ ((l.map tl).flatten.all fun c => decide (97 ≤ c) && decide (c ≤ 122)) = true := by
    intro l
    induction l with
    | nil => intro _; exact ⟨rfl, rfl⟩
    | cons s l ih =>
      intro h
      obtain ⟨i1, i2⟩ := ih fun z hz => h z (List.mem_cons_of_mem _ hz)
      obtain ⟨c, hc, c1, c2⟩ := h s (by simp)
      rw [List.map_cons, List.flatten_cons, hc]
      refine ⟨by simp [i1], ?_⟩
      rw [List.all_append, i2]
      simp [c1, c2]
  obtain ⟨i1, i2⟩ := len l h
  have hl : (Txt.join (Str.ofString "") l).length = l.length := by
    show (Txt.join (Str.ofString "") l).cps.size = _
    rw [← i1, ← e]
    rfl
  unfold Nme nmB
  rw [hl, e, i2, decide_eq_true h1, decide_eq_true h6]
  rfl
theorem nme_rep {c : Nat} (h1 : 97 ≤ c) (h2 : c ≤ 122) {n : Int} (n1 : 1 ≤ n) (n2 : n ≤ 2) : Nme (repS ⟨#[c]⟩ n) := by
  have e : n = 1 ∨ n = 2 := by omega
  unfold Nme nmB
  rcases e with rfl | rfl
  · show (decide (1 ≤ 1) && decide (1 ≤ 6) && ([c].all fun c => decide (97 ≤ c) && decide (c ≤ 122))) = true
    simp [h1, h2]
  · show (decide (1 ≤ 2) && decide (2 ≤ 6) && ([c, c].all fun c => decide (97 ≤ c) && decide (c ≤ 122))) = true
    simp [h1, h2]
section
variable {X : Cx} {M : Mp} {Q : VQ}
theorem o2_ninL {w : VV} {x : Str} {xs : List Str} (hu : X.A.units + 65 < cLine) (h : Lst M w (xs.map VV.str)) (nx : Nme x) (nxs : ∀ y ∈ xs, Nme y) (q : Q (.bl (!decide (x ∈ xs))) M) : O2 X (compareOp .NotIn) (.str x) w M Q :=
  o2_notinD (α := Str) hu (.str x) (.lst h (dws_str xs)) (shaped_str nx) (shaped_strs nxs) fun k hk => by
    have e : k = decide (x ∈ xs) := by
      rw [Bool.eq_iff_iff, decide_eq_true_eq]; exact hk
    rw [e]; exact q
theorem o2_inL {w : VV} {x : Str} {xs : List Str} (hu : X.A.units + 65 < cLine) (h : Lst M w (xs.map VV.str)) (nx : Nme x) (nxs : ∀ y ∈ xs, Nme y) (q : Q (.bl (decide (x ∈ xs))) M) : O2 X (compareOp .In) (.str x) w M Q :=
  o2_inD (α := Str) hu (.str x) (.lst h (dws_str xs)) (shaped_str nx) (shaped_strs nxs) q
end
theorem strs1 {ys : List VV} : (∀ y ∈ ys, ∃ s : Str, y = .str s ∧ ∃ c, tl s = [c] ∧ 97 ≤ c ∧ c ≤ 122) → ∃ l : List Str, ys = l.map .str ∧ l.length = ys.length ∧ (l.map (·.length)).sum = l.length ∧ ∀ s ∈ l, ∃ c, tl s = [c] ∧ 97 ≤ c ∧ c ≤ 122 := by
  induction ys with
  | nil => intro _; exact ⟨[], rfl, rfl, rfl, fun _ h => by cases h⟩
  | cons y ys ih =>
    intro h
    obtain ⟨l, rfl, e1, e2, e3⟩ := ih fun z hz => h z (List.mem_cons_of_mem _ hz)
    obtain ⟨s, rfl, hs⟩ := h y (by simp)
    have hl : s.length = 1 := by
      obtain ⟨c, hc, _⟩ := hs
      show s.cps.toList.length = 1
      exact congrArg List.length hc
    refine ⟨s :: l, rfl, by simp, ?_, fun z hz => ?_⟩
    · simp only [List.map_cons, List.sum_cons, List.length_cons, hl, e2]
      omega
    · rcases List.mem_cons.mp hz with rfl | hz
      · exact hs
      · exact e3 z hz
theorem GdOk.mono {n m : Nat} {g : Gd} (h : GdOk n g) (l : n ≤ m) : GdOk m g := { h with sb := fun p hp => (h.sb p hp).mono l }
def spName : Sp3 := fun ws M Q => ∃ (b : Addr), ws = [.ref b] ∧ M b = some .bag ∧ ∀ x : Str, Nme x → Q (.str x) M
def spNames : Sp3 := fun ws M Q => ∃ (b : Addr) (many : Int), ws = [.ref b, .int many] ∧ M b = some .bag ∧ 0 < many ∧ many ≤ 20 ∧ ∀ (p : Addr) (l : List Str), M p = none → l ≠ [] → l.Nodup → l.length ≤ many.toNat → (∀ x ∈ l, Nme x) → Q (.ref p) (updM M p (.lst (l.map .str)))
def spRatio3 : Sp3 := fun ws M Q => ∃ (b : Addr) (reach : Int), ws = [.ref b, .int reach] ∧ M b = some .bag ∧ 0 ≤ reach ∧ reach ≤ 300 ∧ ∀ x : Rt, RB 15 x → Q (vr x) M
def spSpot3 : Sp3 := fun ws M Q => ∃ (b : Addr) (reach : Int), ws = [.ref b, .int reach] ∧ M b = some .bag ∧ 0 ≤ reach ∧ reach ≤ 300 ∧ ∀ s : Spt, SB 15 s → Q (vsp s) M
structure GdNm (g : Gd) : Prop where
  s : ∀ p ∈ g.spots, Nme p.1
  l : ∀ p ∈ g.lines, Nme p.1 ∧ p.2.1 ∈ ([Str.ofString "road", Str.ofString "shore", Str.ofString "border"] : List Str) ∧ 2 ≤ p.2.2.length ∧ ∀ m ∈ p.2.2, Nme m
  t : ∀ p ∈ g.sites, Nme p.1 ∧ Nme p.2.1 ∧ 1 ≤ p.2.2 ∧ p.2.2 ≤ 9
/-- a ground that is drawn: three dicts, new ones -/
def spGround : Sp3 := fun ws M Q => ∃ (b : Addr) (reach : Int), ws = [.ref b, .int reach] ∧ M b = some .bag ∧ 0 ≤ reach ∧ reach ≤ 300 ∧
  ∀ (g : Gd), GdOk 16 g → GdNm g → ∀ M' r s l t, LeM M M' → M' r = some (.lst [.ref s, .ref l, .ref t]) → M' s = some (.dK (dS vsp g.spots)) → M' l = some (.dK (dS vln g.lines)) → M' t = some (.dK (dS vst g.sites)) → Q (.ref r) M'
theorem oset_dS {β : Type} {f : β → VV} {X : Cx} {M : Mp} {P : Program} {w : World} {K : PySem.W.Frag} {mg : Str → Option Value} {base : Heap} {CX : CXT} {N : List Str} {sc : Scope} {fl : Bool} {k : Nat} (B : Bd P w K mg base CX N sc fl k X) {a : Addr} {l : List (Str × β)} {n : Str} {b : β} {y : VV} {Q : Mp → Prop} (h : M a = some (.dK (dS f l))) (hl : l.length ≤ 1000) (hy : y = f b) (q : Q (updM M a (.dK (dS f (putS l n b))))) : OSet X (.ref a) (.str n) y M Q :=
  hy ▸ oset_dK B (.inr n) (y := f b) h (by rw [List.length_map]; exact Nat.lt_of_le_of_lt hl (by decide)) (by rw [dS_put]; exact q)
theorem srt_any {β : Type} {l : List (Str × β)} {x : VV} (h : x ∈ (srt (l.map (·.1))).map VV.str) : ∃ n b, x = .str n ∧ getS l n = some b := by
  obtain ⟨n, hn, rfl⟩ := List.mem_map.mp h
  obtain ⟨b, hb⟩ := Option.isSome_iff_exists.mp (getS_isSome.mpr (srt_mem.mp hn))
  exact ⟨n, b, rfl, hb⟩
theorem putS_in {β : Type} (l : List (Str × β)) (n : Str) (b : β) : n ∈ (putS l n b).map (·.1) := by
  rw [putS_keys]
  split
  · assumption
  · simp
/-- dicts while they are drawn -/
structure DrG {β : Type} (G : Str → β → Prop) (k : Nat) (sp : List (Str × β)) : Prop where
  d : (sp.map (·.1)).Nodup
  b : ∀ p ∈ sp, G p.1 p.2
  l : sp.length ≤ k
theorem DrG.nil {β : Type} {G : Str → β → Prop} {k : Nat} : DrG G k ([] : List (Str × β)) := ⟨List.nodup_nil, (fun _ h => by cases h), Nat.zero_le _⟩
theorem DrG.put {β : Type} {G : Str → β → Prop} {k : Nat} {sp : List (Str × β)} (h : DrG G k sp) {n : Str} {s : β} (hs : G n s) : DrG G (k + 1) (putS sp n s) := by
  refine ⟨putS_nodup h.d, fun p hp => ?_, ?_⟩
  · rcases putS_mem hp with ⟨e1, e⟩ | h2
    · rw [e, e1]; exact hs
    · exact h.b p h2
  · have := putS_len sp n s
    have := h.l
    omega
theorem DrG.mono {β : Type} {G : Str → β → Prop} {k m : Nat} {sp : List (Str × β)} (h : DrG G k sp) (l : k ≤ m) : DrG G m sp := ⟨h.d, h.b, Nat.le_trans h.l l⟩
def GSp (n : Str) (s : Spt) : Prop := Nme n ∧ SB 16 s
def GLn (n : Str) (q : Str × List Str) : Prop := Nme n ∧ q.1 ∈ ([Str.ofString "road", Str.ofString "shore", Str.ofString "border"] : List Str) ∧ 2 ≤ q.2.length ∧ q.2.length ≤ 20 ∧ ∀ m ∈ q.2, Nme m
def GSt (n : Str) (q : Str × Int) : Prop := Nme n ∧ Nme q.1 ∧ 1 ≤ q.2 ∧ q.2 ≤ 9
theorem gd_ok {sp : List (Str × Spt)} {ln : List (Str × (Str × List Str))} {st : List (Str × (Str × Int))} (h1 : DrG GSp 20 sp) (h2 : DrG GLn 20 ln) (h3 : DrG GSt 20 st) : GdOk 16 ⟨sp, ln, st⟩ ∧ GdNm ⟨sp, ln, st⟩ :=
  ⟨⟨h1.d, h2.d, h3.d, h1.l, h2.l, h3.l, fun p hp => (h1.b p hp).2, fun p hp => (h2.b p hp).2.2.2.1⟩, ⟨fun p hp => (h1.b p hp).1, fun p hp => ⟨(h2.b p hp).1, (h2.b p hp).2.1, (h2.b p hp).2.2.1, (h2.b p hp).2.2.2.2⟩, fun p hp => h3.b p hp⟩⟩
theorem some_of {α : Type} {l : List α} {i : Nat} (h : i < l.length) : l[i]? = some l[i] := by simp [h]
end G3

set_option Elab.async false
set_option linter.all false
set_option maxRecDepth 100000
set_option maxHeartbeats 4000000
/-! the law's own length of a row is the program's; promises of the law's -/
namespace G3
open PySem PySem.Spec L2 PySem.W
def farF (ps : List (Spt × Spt)) : Rt := ps.foldl (fun f p => rsum (rsum f (rabs (rdif p.2.1 p.1.1))) (rabs (rdif p.2.2 p.1.2))) (0, 1)
theorem rdif_pos {p q : Rt} (hp : 0 < p.2) (hq : 0 < q.2) : 0 < (rdif p q).2 := nrm_pos _ _ (mul_ne hp hq)
theorem rsum_pos {p q : Rt} (hp : 0 < p.2) (hq : 0 < q.2) : 0 < (rsum p q).2 := nrm_pos _ _ (mul_ne hp hq)
theorem rabs_pos {p : Rt} (hp : 0 < p.2) : 0 < (rabs p).2 := hp
theorem rq_absdif {p q : Rt} (hp : 0 < p.2) (hq : 0 < q.2) : rq (rabs (rdif p q)) = rq (rabs (rdif q p)) := by
  rw [rq_abs (rdif_pos hp hq), rq_abs (rdif_pos hq hp), rq_dif hp hq, rq_dif hq hp]
  split <;> split <;> grind
structure SPos (s : Spt) : Prop where
  x : 0 < s.1.2
  y : 0 < s.2.2
theorem SB.sp {n : Nat} {s : Spt} (h : SB n s) : SPos s := ⟨h.x.pos, h.y.pos⟩
theorem far_step {f : Rt} {a b : Spt} (hf : 0 < f.2) (ha : SPos a) (hb : SPos b) : rsum (rsum f (rabs (rdif b.1 a.1))) (rabs (rdif b.2 a.2)) = rsum f (stepsF a b) := by
  have p1 := rabs_pos (rdif_pos hb.x ha.x)
  have p2 := rabs_pos (rdif_pos hb.y ha.y)
  have q1 := rabs_pos (rdif_pos ha.x hb.x)
  have q2 := rabs_pos (rdif_pos ha.y hb.y)
  have s1 := rsum_pos hf p1
  have s2 : 0 < (stepsF a b).2 := rsum_pos q1 q2
  refine nm_rq (nm_nrm (mul_ne s1 p2)) (nm_nrm (mul_ne hf s2)) ?_
  show rq (rsum _ _) = rq (rsum _ _)
  rw [rq_sum s1 p2, rq_sum hf p1, rq_sum hf s2]
  show _ = rq f + rq (rsum _ _)
  rw [rq_sum q1 q2, rq_absdif ha.x hb.x, rq_absdif ha.y hb.y]
  grind
theorem far_go : ∀ (ps : List (Spt × Spt)) (f : Rt), 0 < f.2 → (∀ p ∈ ps, SPos p.1 ∧ SPos p.2) → ps.foldl (fun f p => rsum (rsum f (rabs (rdif p.2.1 p.1.1))) (rabs (rdif p.2.2 p.1.2))) f = (ps.map fun p => stepsF p.1 p.2).foldl rsum f
  | [], _, _, _ => rfl
  | p :: ps, f, hf, h => by
    obtain ⟨h1, h2⟩ := h p (by simp)
    simp only [List.foldl_cons, List.map_cons]
    rw [far_step hf h1 h2]
    exact far_go ps _ (rsum_pos hf (rsum_pos (rabs_pos (rdif_pos h1.x h2.x)) (rabs_pos (rdif_pos h1.y h2.y)))) fun q hq => h q (by simp [hq])
theorem far_tot {ps : List (Spt × Spt)} (h : ∀ p ∈ ps, SPos p.1 ∧ SPos p.2) : farF ps = totF (ps.map fun p => stepsF p.1 p.2) := far_go ps (0, 1) (by decide) h
theorem far_bits {ps : List (Spt × Spt)} (h : ∀ p ∈ ps, SB 20 p.1 ∧ SB 20 p.2) (hl : ps.length ≤ 20) : RB 2100 (farF ps) := by
  rw [far_tot fun p hp => ⟨(h p hp).1.sp, (h p hp).2.sp⟩]
  refine (totF_bits (fun x hx => ?_) 1 _ RB.zero).mono (by rw [List.length_map]; omega)
  obtain ⟨z, hz, rfl⟩ := List.mem_map.mp hx
  exact (stepsF_bits (h z hz).1 (h z hz).2).mono (by decide)
theorem far_next {ps : List (Spt × Spt)} {i : Nat} {a b : Spt} (e : ps[i]? = some (a, b)) : farF (ps.take (i + 1)) = rsum (rsum (farF (ps.take i)) (rabs (rdif b.1 a.1))) (rabs (rdif b.2 a.2)) := by
  unfold farF
  rw [List.take_add_one, e, List.foldl_append]
  rfl
/-- a ground's list and its dicts -/
def GrAt (M : Mp) (r : Addr) (g : Gd) : Prop := ∃ s l t, M r = some (.lst [.ref s, .ref l, .ref t]) ∧ M s = some (.dK (dS vsp g.spots)) ∧ M l = some (.dK (dS vln g.lines)) ∧ M t = some (.dK (dS vst g.sites))
theorem GrAt.le {M M' : Mp} {a : Addr} {g : Gd} (h : GrAt M a g) (l : LeM M M') : GrAt M' a g := by
  obtain ⟨x, y, z, h1, h2, h3, h4⟩ := h
  exact ⟨x, y, z, l _ _ h1, l _ _ h2, l _ _ h3, l _ _ h4⟩
def spSpoil : Sp3 := fun ws M Q => ∃ (p : Addr) (xs : List VV), ws = [.ref p] ∧ M p = some (.lst xs) ∧ xs.length ≤ 1000 ∧ ∀ ys, Q .non (updM M p (.lst ys))
def spLKnown : Sp3 := fun ws M Q => ∃ (r : Addr) (g : Gd), ws = [.ref r] ∧ GrAt M r g ∧ GdOk 20 g ∧ ∀ p, M p = none → Q (.ref p) (updM M p (.lst ((knownF g).map .str)))
def spLRow : Sp3 := fun ws M Q => ∃ (r : Addr) (g : Gd) (n : Str) (q : Str × List Str), ws = [.ref r, .str n] ∧ GrAt M r g ∧ GdOk 20 g ∧ getS g.lines n = some q ∧ goneF g n = [] ∧ ∀ p, M p = none → Q (.ref p) (updM M p (.lst ((rowF g n).map vsp)))
def spTold13 (C : Addr) : Sp3 := fun ws M Q => ∃ (a : Addr) (n : Str) (g : Gd) (door : Int), ws = [.ref a, .str n, .int door] ∧ LandAt C M a g ∧ GdOk 20 g ∧
  (getS g.lines n = none → Q (.tup [.str "noline", .str n]) M) ∧
  (∀ q, getS g.lines n = some q → (∀ m r, goneF g n = m :: r → Q (.tup [.str "loose", .str m]) M) ∧ (goneF g n = [] → (door = 0 → ∀ p, M p = none → Q (.ref p) (updM M p (.lst ((rowF g n).map vsp)))) ∧ (door ≠ 0 → Q (vr (lenF g n)) M)))
theorem gone_all {g : Gd} {n : Str} (h : goneF g n = []) {m : Str} (hm : m ∈ marksF g n) : ∃ s, getS g.spots m = some s := by
  have := List.filter_eq_nil_iff.mp h m hm
  simp only [hasS, Bool.not_eq_true', Bool.not_eq_false] at this
  exact Option.isSome_iff_exists.mp this
theorem atI_last {α : Type} (zs : List α) (z : α) : atI (zs ++ [z]) (-1) = some z := by
  unfold atI ixN
  simp only [List.length_append, List.length_cons, List.length_nil]
  rw [if_neg (by omega), if_pos (by omega)]
  show (zs ++ [z])[_]? = some z
  rw [show (-1 + ((zs.length + (0 + 1) : Nat) : Int)).toNat = zs.length by omega]
  simp
theorem last_of {α : Type} {xs : List α} (h : 0 < xs.length) : ∃ ys y, xs = ys ++ [y] := ⟨_, _, (List.dropLast_concat_getLast (List.length_pos_iff.mp h)).symm⟩
theorem DE.strs {M : Mp} {u v : VV} {xs : List Str} (hu : Lst M u (xs.map .str)) (hv : Lst M v (xs.map .str)) (hl : xs.length ≤ 100000) (n : Nat) : DE M (n + 1) u v := DE.map hu hv hl fun x _ => .str _ _
theorem DE.str2 {M : Mp} (a b : Str) (n : Nat) : DE M (n + 1) (.tup [.str a, .str b]) (.tup [.str a, .str b]) := .tup rfl (by show 2 ≤ 100000; decide) fun j x y h1 h2 => by
  rw [h1] at h2; cases h2
  match j with
  | 0 => cases h1; exact .str _ _
  | 1 => cases h1; exact .str _ _
  | j + 2 => cases h1
end G3

set_option Elab.async false
set_option linter.all false
set_option maxRecDepth 100000
set_option maxHeartbeats 4000000
/-! scales in plain Lean; promises -/
namespace G3
open PySem PySem.Spec L2 PySem.W
inductive NumW : VV → Prop
  | int (i) : NumW (.int i)
  | bl (b) : NumW (.bl b)
def isInt : VV → Bool
  | .int _ => true
  | _ => false
def partB (v : VV) (lo hi : Int) : Bool := match v with
  | .int i => decide (lo ≤ i) && decide (i ≤ hi)
  | _ => false
def dueF (v1 v2 v3 v4 : VV) : Option Str := if partB v1 1 100 = false then some (Str.ofString "step") else if partB v2 0 100 = false then some (Str.ofString "tolerance") else if partB v3 1 9 = false then some (Str.ofString "letter") else if partB v4 8 64 = false then some (Str.ofString "side") else none
theorem partB_int {v : VV} {lo hi : Int} (h : partB v lo hi = true) : ∃ i, v = .int i ∧ lo ≤ i ∧ i ≤ hi := by
  unfold partB at h
  split at h
  · simp only [Bool.and_eq_true, decide_eq_true_eq] at h
    exact ⟨_, rfl, h.1, h.2⟩
  · cases h
def spIsNum : Sp3 := fun ws M Q => ∃ v, ws = [v] ∧ NumW v ∧ Q (.bl (isInt v)) M
def bsF (p : VV) : List (Str × VV) := [("part", p), ("called", .str "badscale")]
def spNeed (C : Addr) : SpX := fun ws M Q R => ∃ (p : Str) (v : VV) (lo hi : Int), ws = [.str p, v, .int lo, .int hi] ∧ NumW v ∧ (partB v lo hi = true → Q .non M) ∧ (partB v lo hi = false → ∀ d, M d = none → R (.ref C) (some d) (updM M d (.xd (bsF (.str p)))))
def scFs (v1 v2 v3 v4 : VV) : List (Str × VV) := [("step", v1), ("tolerance", v2), ("letter", v3), ("side", v4)]
structure Sc where
  s : Int
  t : Int
  l : Int
  d : Int
structure ScOk (c : Sc) : Prop where
  s : 1 ≤ c.s ∧ c.s ≤ 100
  t : 0 ≤ c.t ∧ c.t ≤ 100
  l : 1 ≤ c.l ∧ c.l ≤ 9
  d : 8 ≤ c.d ∧ c.d ≤ 64
def ScAt (C : Addr) (M : Mp) (a : Addr) (c : Sc) : Prop := M a = some (.ins C (scFs (.int c.s) (.int c.t) (.int c.l) (.int c.d)))
def spScInitO (o : VV → VV → VV → VV → VV → List VV) (C CB : Addr) : SpX := fun ws M Q R => ∃ (a : Addr) (v1 v2 v3 v4 : VV), ws = o (.ref a) v1 v2 v3 v4 ∧ M a = some (.ins C []) ∧ NumW v1 ∧ NumW v2 ∧ NumW v3 ∧ NumW v4 ∧
  (dueF v1 v2 v3 v4 = none → Q .non (updM M a (.ins C (scFs v1 v2 v3 v4)))) ∧ (∀ p, dueF v1 v2 v3 v4 = some p → ∀ d, M d = none → R (.ref CB) (some d) (updM M d (.xd (bsF (.str p)))))
abbrev spScInit := spScInitO fun a b c d e => [a, b, c, d, e]
theorem due_none {v1 v2 v3 v4 : VV} (h : dueF v1 v2 v3 v4 = none) : ∃ c : Sc, ScOk c ∧ v1 = .int c.s ∧ v2 = .int c.t ∧ v3 = .int c.l ∧ v4 = .int c.d := by
  unfold dueF at h
  split at h
  · cases h
  split at h
  · cases h
  split at h
  · cases h
  split at h
  · cases h
  rename_i h1 h2 h3 h4
  rw [Bool.not_eq_false] at h1 h2 h3 h4
  obtain ⟨s, rfl, s1, s2⟩ := partB_int h1
  obtain ⟨t, rfl, t1, t2⟩ := partB_int h2
  obtain ⟨l, rfl, l1, l2⟩ := partB_int h3
  obtain ⟨d, rfl, d1, d2⟩ := partB_int h4
  exact ⟨⟨s, t, l, d⟩, ⟨⟨s1, s2⟩, ⟨t1, t2⟩, ⟨l1, l2⟩, ⟨d1, d2⟩⟩, rfl, rfl, rfl, rfl⟩
theorem due_ok {c : Sc} (h : ScOk c) : dueF (.int c.s) (.int c.t) (.int c.l) (.int c.d) = none := by
  have e1 : partB (.int c.s) 1 100 = true := by simp [partB, h.s]
  have e2 : partB (.int c.t) 0 100 = true := by simp [partB, h.t]
  have e3 : partB (.int c.l) 1 9 = true := by simp [partB, h.l]
  have e4 : partB (.int c.d) 8 64 = true := by simp [partB, h.d]
  unfold dueF
  rw [e1, e2, e3, e4]
  simp
/-- a call's values, its defaults and its keywords in the parameters' order -/
def gS1 {α : Type} (us mv ws : List α) : List α := us ++ (match mv, ws with | [t], [s, l] => [t, l, s] | _, _ => [])
def gS2 {α : Type} (us mv ws : List α) : List α := us ++ (match mv, ws with | [d], [s, l, t] => [s, t, l, d] | _, _ => [])
/-- a number's text -/
abbrev ti (i : Int) : Str := Str.ofString (toString i)
abbrev bk : Str := Str.ofString " "
def txF (c : Sc) : Str := ((((((Str.empty ++ ti c.s) ++ bk) ++ ti c.t) ++ bk) ++ ti c.l) ++ bk) ++ ti c.d
def rpF (c : Sc) : Str := ((Str.empty ++ Str.ofString "Scale(") ++ ti c.s) ++ Str.ofString ")"
theorem ti_len {i : Int} (h0 : 0 ≤ i) (h1 : i ≤ 100) : (ti i).length ≤ 3 := by
  have all : ∀ n : Fin 101, (ti ((n : Nat) : Int)).length ≤ 3 := by decide +kernel
  obtain ⟨n, rfl⟩ := Int.eq_ofNat_of_zero_le h0
  exact all ⟨n, by omega⟩
theorem ti_inj {i j : Int} (h0 : 0 ≤ i) (h1 : i ≤ 100) (g0 : 0 ≤ j) (g1 : j ≤ 100) (h : ti i = ti j) : i = j := by
  have all : ((List.range 101).map fun n => TL.tl (ti ((n : Nat) : Int))).Nodup := by decide +kernel
  obtain ⟨n, rfl⟩ := Int.eq_ofNat_of_zero_le h0
  obtain ⟨m, rfl⟩ := Int.eq_ofNat_of_zero_le g0
  have e : ((List.range 101).map fun n => TL.tl (ti ((n : Nat) : Int)))[n]'(by simp; omega) = ((List.range 101).map fun n => TL.tl (ti ((n : Nat) : Int)))[m]'(by simp; omega) := by
    simp only [List.getElem_map, List.getElem_range]
    exact congrArg TL.tl h
  have := (List.getElem_inj all).mp e
  rw [this]
def spTxt (C : Addr) : SpX := fun ws M Q _ => ∃ (a : Addr) (c : Sc), ws = [.ref a] ∧ ScAt C M a c ∧ ScOk c ∧ Q (.str (txF c)) M
def spRep (C : Addr) : SpX := fun ws M Q _ => ∃ (a : Addr) (c : Sc), ws = [.ref a] ∧ ScAt C M a c ∧ ScOk c ∧ Q (.str (rpF c)) M
def spSlack (C : Addr) : SpX := fun ws M Q _ => ∃ (a : Addr) (c : Sc), ws = [.ref a] ∧ ScAt C M a c ∧ ScOk c ∧ Q (vr (nrm (2 * c.t + c.s) 2)) M
def spScEq (C : Addr) : SpX := fun ws M Q _ => ∃ (a : Addr) (c : Sc), ScAt C M a c ∧ ScOk c ∧ ((∃ i, ws = [.ref a, .int i] ∧ Q (.bl false) M) ∨ ∃ b c2, ws = [.ref a, .ref b] ∧ ScAt C M b c2 ∧ ScOk c2 ∧ Q (.bl (decide (txF c = txF c2))) M)
end G3

set_option Elab.async false
set_option linter.all false
set_option maxRecDepth 100000
set_option maxHeartbeats 4000000
namespace G3
open PySem PySem.Spec L2 PySem.W
theorem str_ext {x y : Str} (h : TL.tl x = TL.tl y) : x = y := by
  cases x; cases y
  simp only [TL.tl] at h
  congr 1
  exact Array.toList_inj.mp h
theorem txF_join (c : Sc) : txF c = Txt.join bk [ti c.s, ti c.t, ti c.l, ti c.d] := by
  refine str_ext ?_
  have e : TL.tl (Txt.join bk [ti c.s, ti c.t, ti c.l, ti c.d]) = TL.joinL (TL.tl bk) ([ti c.s, ti c.t, ti c.l, ti c.d].map TL.tl) := by rw [TL.join_eq, TL.tl_join]
  rw [e]
  unfold txF
  simp only [TL.tl_append, TL.joinL, List.map_cons, List.map_nil, List.append_assoc]
  rfl
theorem rpF_cat (c : Sc) : rpF c = (Str.ofString "Scale(" ++ ti c.s) ++ Str.ofString ")" := by
  refine str_ext ?_
  unfold rpF
  simp only [TL.tl_append]
  rfl
theorem txF_iff {c : Sc} {t : Int} (h : ScOk c) (t0 : 0 ≤ t) (t1 : t ≤ 100) : txF c = txF { c with t := t } ↔ c.t = t := by
  constructor
  · intro e
    have e := congrArg TL.tl e
    unfold txF at e
    simp only [TL.tl_append, List.append_assoc, List.append_cancel_left_eq] at e
    have e2 := List.append_cancel_right e
    exact ti_inj h.t.1 h.t.2 t0 t1 (str_ext e2)
  · intro e
    rw [← e]
/-- + of texts -/
theorem o2_addS {X : Cx} {M : Mp} {Q : VQ} {i j : Str} (h : i.length + j.length ≤ sizeLine) (q : Q (.str (i ++ j)) M) : O2 X (binaryOp .Add) (.str i) (.str j) M Q := fun H v u m r1 r2 => by
  cases r1; cases r2; exact wOp.of op_add_str ⟨i, j, rfl, rfl, h, .mk m (.str _) q⟩
def spLDue : Sp3 := fun ws M Q => ∃ (p : Addr) (v1 v2 v3 v4 : VV), ws = [.ref p] ∧ M p = some (.lst [v1, v2, v3, v4]) ∧ NumW v1 ∧ NumW v2 ∧ NumW v3 ∧ NumW v4 ∧ (dueF v1 v2 v3 v4 = none → Q .non M) ∧ (∀ s, dueF v1 v2 v3 v4 = some s → Q (.str s) M)
def spLTold (C : Addr) : Sp3 := fun ws M Q => ∃ (p : Addr) (door : Int) (v1 v2 v3 v4 : VV), ws = [.ref p, .int door] ∧ M p = some (.lst [v1, v2, v3, v4]) ∧ NumW v1 ∧ NumW v2 ∧ NumW v3 ∧ NumW v4 ∧ 0 ≤ door ∧ door < 4 ∧ (door = 1 ∨ door = 3 → v2 = .int 0) ∧ (door = 3 → v3 = .int 1) ∧ (1 < door → v4 = .int 16) ∧
  (dueF v1 v2 v3 v4 = none → ∀ a, M a = none → Q (.ref a) (updM M a (.ins C (scFs v1 v2 v3 v4)))) ∧ (∀ s, dueF v1 v2 v3 v4 = some s → Q (.str s) M)
def spRatioK : Sp3 := fun ws M Q => ∃ (b : Addr) (reach : Int), ws = [.ref b, .int reach] ∧ M b = some .bag ∧ 0 ≤ reach ∧ reach ≤ 1000 ∧ ∀ x : Rt, RB 17 x → Q (vr x) M
def spLPair : Sp3 := fun ws M Q => ∃ (s : Spt) (i : Int), ws = [vsp s, .int i] ∧ SB 400 s ∧ 1 ≤ i ∧ i ≤ 100 ∧ Q (.tup [.int ((2 * s.1.1 + i * s.1.2).fdiv (2 * i * s.1.2)), .int ((2 * s.2.1 + i * s.2.2).fdiv (2 * i * s.2.2))]) M
theorem Rvs.four {K : PySem.W.Frag} {H : Hp} : True := trivial
end G3

def G3.top (i : Nat) : PySem.Stmt := PySem.Challenge.pw_gromatic_k56_whole_lettering_shown_both.main.body.getD i (.Pass ⟨0, 0, 0, 0⟩)
set_option Elab.async false
set_option linter.all false
set_option maxRecDepth 100000
set_option maxHeartbeats 4000000
set_option pp.maxSteps 1000
namespace G3
open PySem PySem.Spec L2
local macro_rules | `(tactic| walk_at "at") => `(tactic| with_reducible (repeat (first | exact At.here | apply At.there)))
local macro_rules | `(tactic| walk_at "vis") => `(tactic| first | exact Or.inl rfl | exact Or.inr (Or.inl rfl) | exact Or.inr (Or.inr rfl))
local macro_rules | `(tactic| walk_at "loc") => `(tactic| first | exact Or.inl rfl | exact Or.inr rfl)
local macro_rules | `(tactic| walk_at "as") => `(tactic| with_reducible assumption)
local macro_rules | `(tactic| walk_at "e") => `(tactic| first
  | ((with_reducible show G3.WE _ (.Name _ _) _ _ _); first | refine we_nm (by walk_at "as") (by walk_at "at") (by walk_at "vis") (by rfl) ?_ | refine we_tyn (by walk_at "as") (by rfl) (by walk_at "as") (by walk_at "as") ?_ | refine we_cls (C := He.ga _ _) (by walk_at "as") (by rfl) (by walk_at "as") ?_ | refine we_nmH (by walk_at "as") (by walk_at "at") (by walk_at "vis") (by rfl) ?_ | refine we_tynH (by walk_at "as") (by rfl) (by walk_at "as") (by walk_at "as") ?_ | refine we_clsH (C := He.ga _ _) (by walk_at "as") (by rfl) (by walk_at "as") ?_)
  | ((with_reducible show G3.WE _ (.Constant (.int _) _ _) _ _ _); refine we_int ?_)
  | ((with_reducible show G3.WE _ (.Subscript _ (.Slice _ _ (some _) _) _) _ _ _); refine we_rev ?_)
  | ((with_reducible show G3.WE _ (.Subscript _ (.Slice _ _ none _) _) _ _ _); refine we_slice ?_)
  | ((with_reducible show G3.WE _ (.Subscript _ _ _) _ _ _); refine we_ix ?_)
  | ((with_reducible show G3.WE _ (.BinOp _ _ _ _) _ _ _); refine we_op ?_)
  | ((with_reducible show G3.WE _ (.Call (.Name _ _) _ _ _) _ _ _); first
      | refine we_call (by walk_at "as") (by walk_at "as") (by decide) (by rfl) ?_
      | refine we_callB (by walk_at "as") (by rfl) (by walk_at "as") (by walk_at "as") ?_
      | refine we_callTy (by walk_at "as") (by rfl) (by walk_at "as") (by walk_at "as") ?_
      | refine we_callX (by walk_at "as") (by walk_at "as") (by walk_at "as") (by decide) (by rfl) (by walk_at "as") ?_
      | refine we_callBH (by walk_at "as") (by rfl) (by walk_at "as") (by walk_at "as") ?_)
  | ((with_reducible show G3.WE _ (.Attribute _ _ _) _ _ _); first | refine we_fld (by walk_at "as") ?_ | refine we_xfH (by walk_at "as") (by walk_at "as") (by walk_at "as") (by walk_at "as") ?_)
  | ((with_reducible show G3.WE _ (.Tuple _ _ _) _ _ _); refine we_tup ?_)
  | ((with_reducible show G3.WE _ (.List _ _) _ _ _); first | refine we_lstN ?_ | refine we_lst ?_)
  | ((with_reducible show G3.WE _ (.Compare _ [_] _ _) _ _ _); refine we_cmp ?_)
  | ((with_reducible show G3.WE _ (.Compare _ [_, _] _ _) _ _ _); refine we_chain ?_)
  | ((with_reducible show G3.WE _ (.UnaryOp .Not _ _) _ _ _); refine we_not ?_)
  | ((with_reducible show G3.WE _ (.UnaryOp _ _ _) _ _ _); refine we_un ?_)
  | ((with_reducible show G3.WE _ (.IfExp _ _ _ _) _ _ _); refine we_if ?_)
  | ((with_reducible show G3.WE _ (.Constant _ _ _) _ _ _); first | refine we_bl ?_ | refine we_non ?_ | refine we_str ?_)
  | ((with_reducible show G3.WE _ (.JoinedStr (_ :: _ :: _) _) _ _ _); refine we_joined ?_)
  | ((with_reducible show G3.WE _ (.FormattedValue _ _ _ _) _ _ _); refine we_fmt ?_)
  | ((with_reducible show G3.WE _ (.BoolOp _ [_] _) _ _ _); refine we_one ?_)
  | ((with_reducible show G3.WE _ (.BoolOp .And _ _) _ _ _); refine we_and ?_)
  | ((with_reducible show G3.WE _ (.BoolOp .Or _ _) _ _ _); refine we_or ?_))
local macro_rules | `(tactic| walk_at "t") => `(tactic| first
  | ((with_reducible show WT _ (.Compare _ [_] _ _) _ _ _); refine wt_cmp ?_)
  | ((with_reducible show WT _ (.Compare _ [_, _] _ _) _ _ _); refine wt_chain ?_)
  | ((with_reducible show WT _ (.UnaryOp .Not _ _) _ _ _); refine wt_not ?_)
  | ((with_reducible show WT _ (.BoolOp .And _ _) _ _ _); refine wt_w (ww_and ?_))
  | ((with_reducible show WT _ (.BoolOp .Or _ _) _ _ _); refine wt_w (ww_or ?_))
  | refine wt_truth ?_)
local macro_rules | `(tactic| walk_at "w") => `(tactic| first
  | ((with_reducible show WW _ (.BoolOp .And [_] _) _ _ _); refine ww_and1 ?_)
  | ((with_reducible show WW _ (.BoolOp .Or [_] _) _ _ _); refine ww_or1 ?_)
  | ((with_reducible show WW _ (.BoolOp .And _ _) _ _ _); refine ww_and ?_)
  | ((with_reducible show WW _ (.BoolOp .Or _ _) _ _ _); refine ww_or ?_))
local macro_rules | `(tactic| walk_at "st") => `(tactic| first
  | ((with_reducible show WS _ (.Assign [.Name _ _] (.ListComp _ _ _ _) _) _ _ _); fail)
  | ((with_reducible show WS _ (.Assign [.Name _ _] _ _) _ _ _); first | refine ws_set (by walk_at "as") (by walk_at "at") (by walk_at "loc") ?_ | refine ws_setH (by walk_at "as") (by walk_at "at") (by walk_at "loc") ?_)
  | ((with_reducible show WS _ (.Return (some _) _) _ _ _); refine ws_ret ?_)
  | ((with_reducible show WS _ (.If _ _ _ _) _ _ _); refine ws_if ?_)
  | ((with_reducible show WS _ (.Expr (.Call (.Attribute _ "append" _) _ _ _) _) _ _ _); refine ws_append ?_)
  | ((with_reducible show WS _ (.Expr (.Call (.Attribute _ "insert" _) _ _ _) _) _ _ _); refine ws_insert ?_)
  | ((with_reducible show WS _ (.Expr _ _) _ _ _); refine ws_expr ?_)
  | ((with_reducible show WS _ (.Assign [.Tuple _ _ _] (.Tuple _ _ _) _) _ _ _); first
      | refine ws_par2 (by walk_at "as") (by walk_at "at") (by walk_at "at") (by rfl) (by rfl) (by rfl) (by rfl) ?_
      | refine ws_asgT (by walk_at "as") (by rfl) ?_)
  | ((with_reducible show WS _ (.Raise (some _) none _) _ _ _); refine ws_raise (by walk_at "as") (by walk_at "as") ?_)
  | ((with_reducible show WS _ (.Assign [_] _ _) _ _ _); (fail_if_success (with_reducible show WS _ (.Assign [.Attribute _ _ _] _ _) _ _ _)); refine ws_asg ?_)
  | ((with_reducible show WS _ (.Return none _) _ _ _); refine ws_retN ?_)
  | ((with_reducible show WS _ (.Pass _) _ _ _); refine ws_pass ?_)
  | ((with_reducible show WS _ (.Break _) _ _ _); refine ws_break ?_)
  | ((with_reducible show WS _ (.Continue _) _ _ _); refine ws_continue ?_))
local macro_rules | `(tactic| walk_at "mul") => `(tactic| with_unfolding_all first
  | exact cml (by decide) (by decide)
  | exact cmr (by decide) (by decide)
  | exact cmw (by with_reducible assumption) (by with_reducible assumption) (by decide) (by decide) (by decide)
  | exact cml (by omega) (by omega)
  | exact cmr (by omega) (by omega))
local macro_rules | `(tactic| walk_at "o2") => `(tactic| with_reducible first
  | refine o2_add ?_
  | refine o2_sub ?_
  | refine o2_mul (by walk_at "mul") ?_
  | refine o2_lt ?_
  | refine o2_le ?_
  | refine o2_gt ?_
  | refine o2_ge ?_
  | refine o2_eqi ?_
  | refine o2_nei ?_
  | refine o2_eqb ?_
  | refine o2_neb ?_
  | refine o2_eqs ?_
  | refine o2_nes ?_
  | refine o2_isN ?_
  | refine o2_notN ?_)
local macro_rules | `(tactic| walk_at "x") => `(tactic| first
  | ((with_reducible show G3.WE _ _ _ _ _); walk_at "e")
  | ((with_reducible show WA _ _ _ _ _); first | refine wa_cons ?_ | refine wa_nil ?_)
  | ((with_reducible show WMk _ (.Call (.Name _ _) [] _ _) _ _ _); refine wmk_own0 (by walk_at "as") (by walk_at "as") (by decide) (by rfl) ?_)
  | ((with_reducible show WO _ _ _ _ _); first | (show G3.WE _ _ _ _ _))
  | ((with_reducible show WT _ _ _ _ _); walk_at "t")
  | ((with_reducible show G3.WJ _ _ _ _ _ _); first | refine wj_cons ?_ | refine wj_nil ?_)
  | ((with_reducible show G3.WK _ _ _ _ _); first | refine wk_cons ?_ | refine wk_nil ?_)
  | ((with_reducible show WW _ _ _ _ _); walk_at "w")
  | ((with_reducible show WS _ _ _ _ _); walk_at "st")
  | ((with_reducible show O2 _ _ _ _ _ _); walk_at "o2")
  | ((with_reducible show OI _ (.tup _) _ _ _); refine oi_tup rfl ?_)
  | ((with_reducible show OC _ _ _ _ _); with_reducible first | refine oc_abs ?_ | refine oc_int ?_ | refine oc_intb ?_ | refine oc_lenT ?_)
  | ((with_reducible show O1 _ _ _ _ _); refine o1_neg ?_)
  | ((with_reducible show BQ _ _ _); refine ⟨_, rfl, ?_⟩)
  | ((with_reducible show WG _ _ _ _ _ _); first | refine wg_name (by walk_at "as") (by walk_at "at") (by walk_at "loc") ?_ | refine wg_tup (by walk_at "as") ?_)
  | ((with_reducible show WGs _ _ _ _ _ _); first | refine wgs_cons (by walk_at "as") (by walk_at "at") (by walk_at "loc") ?_ | refine wgs_nil ?_))
local macro_rules | `(tactic| walk_at "s") => `(tactic| first
  | walk_at "x"
  | ((with_reducible show WSs _ _ _ _ _); first | refine wss_cons ?_ | refine wss_nil ?_))
theorem df_any5 {E : Ev} (hL : E.mg "len" = none) (D1 : E.df 1 "_law_pull" ["_law_draw", "_law_top"] spDraw) (T : Tx E "_law_any" (top 13) ["_law_draw", "_law_some"]) : E.df 2 "_law_any" ["_law_draw", "_law_some"] spAny := by
  refine T.df ["_law_draw", "_law_some"] ⟨rfl, rfl, rfl, by decide +kernel, rfl, by decide +kernel, by decide +kernel⟩ (fun ws M Q ⟨a, b, c, e, _⟩ => by rw [e]; rfl) fun X B ws M Q ⟨b, w, xs, e, hb, hl, h0, h1, q⟩ => ?_
  subst e
  have bL := bb_len
  show WSs X _ [some (.ref b), some w] M _
  repeat (walk_at "s")
  refine oc_len hl ?_
  repeat (walk_at "s")
  refine ⟨b, _, rfl, hb, by omega, by omega, fun r r0 r1 => ?_⟩
  obtain ⟨j, hj⟩ := Int.eq_ofNat_of_zero_le r0
  have hjl : j < xs.length := by omega
  rw [hj]
  refine oi_lst (w := xs[j]) hl (atI_nat (by simp [hjl])) ?_
  exact ⟨M, LeM.refl, q _ (List.getElem_mem hjl)⟩
theorem df_open5 {E : Ev} (hL : E.mg "list" = none) (T : Tx E "_law_open" (top 11) ["_law_script"]) : E.df 1 "_law_open" ["_law_script"] spBag := by
  refine T.df ["_law_script"] ⟨rfl, rfl, rfl, by decide +kernel, rfl, by decide +kernel, by decide +kernel⟩ (fun ws M Q ⟨a, b, e, _⟩ => by rw [e]; rfl) fun X B ws M Q ⟨w, ns, e, hl, nb, q⟩ => ?_
  subst e
  have bL := bb_list
  show WSs X _ [some w] M _
  walk_at "s"
  walk_at "s"
  refine we_close ?_
  repeat (walk_at "s")
  refine ⟨_, rfl, ?_⟩
  refine ⟨_, hl, fun p np => ?_⟩
  have cw : cutW (ns.map VV.int) none (some 63) = (ns.take 63).map VV.int := (cut_to (b := 63) rfl).trans List.map_take.symm
  rw [cw]
  repeat (walk_at "s")
  refine oc_list (.ref updM_same) fun c nc => ?_
  repeat (walk_at "s")
  refine ⟨by show 5 ≤ sizeLine; decide, fun b nb' => ?_⟩
  have npc : c ≠ p := by rintro rfl; rw [updM_same] at nc; cases nc
  have nbc : b ≠ c := by rintro rfl; rw [updM_same] at nb'; cases nb'
  rw [updM_ne npc] at nc
  rw [updM_ne nbc] at nb'
  have nbp : b ≠ p := by rintro rfl; rw [updM_same] at nb'; cases nb'
  rw [updM_ne nbp] at nb'
  refine ⟨updM M b .bag, b, c, 0, 0, 811, 0, ns.take 63, updM_same, ?_, ⟨by decide, by decide, by decide, by rw [List.length_take]; omega⟩, fun a => ?_, updM_same, ?_, fun a o h hab => ?_, _, LeM.refl, q b nb'⟩
  · rw [updM_ne nbc.symm, updM_same]
  · by_cases h1 : a = b
    · subst h1; rw [updM_same]; intro z; cases z
    · rw [updM_ne h1]
      by_cases h2 : a = c
      · subst h2; rw [updM_same]; intro z; cases z
      · rw [updM_ne h2]
        by_cases h3 : a = p
        · subst h3; rw [updM_same]; intro z; cases z
        · rw [updM_ne h3]; exact nb a
  · rw [updM_ne nbc.symm]; exact nc
  · rw [updM_ne hab] at h
    rw [updM_ne hab, updM_ne (neM h nc), updM_ne (neM h np)]
    exact h
theorem df_pull {E : Ev} (hL : E.mg "len" = none) (T : Tx E "_law_pull" (top 12) ["_law_draw", "_law_top"]) : E.df 1 "_law_pull" ["_law_draw", "_law_top"] spDraw := by
  refine T.df ["_law_draw", "_law_top", "_law_cell", "_law_got"] ⟨rfl, rfl, rfl, by decide +kernel, rfl, by decide +kernel, by decide +kernel⟩ (fun ws M Q ⟨a, b, e, _⟩ => by rw [e]; rfl) fun X B ws M Q ⟨b, many, e, hb, hm0, hm1, q⟩ => ?_
  subst e
  have bL := bb_len
  show WSs X _ [some (.ref b), some (.int many), none, none] M _
  refine wss_open hb fun c i1 i2 i3 i4 cells ok nc ncb hu => ?_
  obtain ⟨p0, sd0, sd1, hlen⟩ := ok
  have key : ∀ (i1 i2 i3 i4 : Int) (r : Int), 0 ≤ i1 → 0 ≤ i3 → i3 < 2147483629 → 0 ≤ r → r < many → ∀ M' : Mp, M' b = some (.lst [.ref c, .int i1, .int i2, .int i3, .int i4]) → M' c = some (.lst (cells.map VV.int)) → (∀ a, a ≠ b → a ≠ c → M' a = M a) →
      ∃ M0 b c i1 i2 i3 i4 cells, M' b = some (.lst [.ref c, .int i1, .int i2, .int i3, .int i4]) ∧ M' c = some (.lst (cells.map VV.int)) ∧ BagOk i1 i2 i3 i4 cells ∧ (∀ a, M' a ≠ some .bag) ∧ M0 b = some .bag ∧ M0 c = none ∧ (∀ a o, M0 a = some o → a ≠ b → M' a = some o) ∧ Fgt Q (.int r) M0 := by
    intro i1 i2 i3 i4 r g1 g2 g3 r0 r1 M' h1 h2 h3
    refine ⟨M, b, c, i1, i2, i3, i4, cells, h1, h2, ⟨g1, g2, g3, hlen⟩, fun a => ?_, hb, nc, fun a o h hab => ?_, M, LeM.refl, q r r0 r1⟩
    · by_cases e1 : a = b
      · subst e1; rw [h1]; intro z; cases z
      · by_cases e2 : a = c
        · subst e2; rw [h2]; intro z; cases z
        · rw [h3 a e1 e2]; exact fun z => e1 (hu a z)
    · rw [h3 a hab (neM h nc)]; exact h
  have hMb : (updM (updM M b (.lst [.ref c, .int i1, .int i2, .int i3, .int i4])) c (.lst (cells.map VV.int))) b = some (.lst [.ref c, .int i1, .int i2, .int i3, .int i4]) := by rw [updM_ne ncb.symm, updM_same]
  have hMc : (updM (updM M b (.lst [.ref c, .int i1, .int i2, .int i3, .int i4])) c (.lst (cells.map VV.int))) c = some (.lst (cells.map VV.int)) := updM_same
  have hMo : ∀ a, a ≠ b → a ≠ c → (updM (updM M b (.lst [.ref c, .int i1, .int i2, .int i3, .int i4])) c (.lst (cells.map VV.int))) a = M a := fun a h1 h2 => by rw [updM_ne h2, updM_ne h1]
  generalize updM (updM M b (.lst [.ref c, .int i1, .int i2, .int i3, .int i4])) c (.lst (cells.map VV.int)) = M1 at hMb hMc hMo
  -- the count
  refine wss_cut (fun σ M' => ∃ i4, M' b = some (.lst [.ref c, .int i1, .int i2, .int i3, .int i4]) ∧ M' c = some (.lst (cells.map VV.int)) ∧ (∀ a, a ≠ b → a ≠ c → M' a = M a) ∧ σ = [some (.ref b), some (.int many), none, none]) ?_ ?_
  · repeat (walk_at "s")
    refine oi_lst (.ref hMb) rfl ?_
    repeat (walk_at "s")
    refine wg_sub ?_
    repeat (walk_at "s")
    refine oset_lst (j := 4) hMb rfl ?_
    exact ⟨i4 + 1, updM_same, by rw [updM_ne ncb]; exact hMc, fun a h1 h2 => by rw [updM_ne h1]; exact hMo a h1 h2, rfl⟩
  clear hMb hMc hMo i4
  rintro σ M1 ⟨i4, hMb, hMc, hMo, rfl⟩
  -- the next cell
  refine wss_cut (fun σ M' => ∃ i1 i2 i3 x2, 0 ≤ i1 ∧ 0 ≤ i3 ∧ i3 < 2147483629 ∧ M' b = some (.lst [.ref c, .int i1, .int i2, .int i3, .int i4]) ∧ M' c = some (.lst (cells.map VV.int)) ∧ (∀ a, a ≠ b → a ≠ c → M' a = M a) ∧ σ = [some (.ref b), some (.int many), x2, none]) ?_ ?_
  · repeat (walk_at "s")
    refine oi_lst (.ref hMb) rfl ?_
    repeat (walk_at "s")
    refine ite_dec (fun c1 => ?_) (fun c1 => ?_)
    · repeat (walk_at "s")
      refine oi_lst (.ref hMb) rfl ?_
      repeat (walk_at "s")
      refine oi_lst (.ref hMb) rfl ?_
      repeat (walk_at "s")
      refine oc_len (.ref hMc) ?_
      rw [List.length_map]
      repeat (walk_at "s")
      refine ite_dec (fun c2 => ?_) (fun c2 => ?_)
      · obtain ⟨j, rfl⟩ := Int.eq_ofNat_of_zero_le p0
        have hj : j < cells.length := by omega
        repeat (walk_at "s")
        refine oi_lst (.ref hMb) rfl ?_
        repeat (walk_at "s")
        refine oi_lst (.ref hMb) rfl ?_
        refine oi_lst (w := .int cells[j]) (.ref hMc) (atI_nat (by simp [hj])) ?_
        generalize cells[j] = cell
        refine wss_cut (fun σ M' => M' b = some (.lst [.ref c, .int ((j : Int) + 1), .int i2, .int i3, .int i4]) ∧ M' c = some (.lst (cells.map VV.int)) ∧ (∀ a, a ≠ b → a ≠ c → M' a = M a) ∧ σ = [some (.ref b), some (.int many), some (.int cell), none]) ?_ ?_
        · repeat (walk_at "s")
          refine oi_lst (.ref hMb) rfl ?_
          repeat (walk_at "s")
          refine wg_sub ?_
          repeat (walk_at "s")
          refine oset_lst (j := 1) hMb rfl ?_
          exact ⟨updM_same, by rw [updM_ne ncb]; exact hMc, fun a h1 h2 => by rw [updM_ne h1]; exact hMo a h1 h2, rfl⟩
        clear hMb hMc hMo M1
        rintro σ M1 ⟨hMb, hMc, hMo, rfl⟩
        refine wss_cut (fun σ M' => ∃ i2, M' b = some (.lst [.ref c, .int ((j : Int) + 1), .int i2, .int i3, .int i4]) ∧ M' c = some (.lst (cells.map VV.int)) ∧ (∀ a, a ≠ b → a ≠ c → M' a = M a) ∧ σ = [some (.ref b), some (.int many), some (.int cell), none]) ?_ ?_
        · repeat (walk_at "s")
          refine o2_pow (by unfold CPow; decide) ?_
          repeat (walk_at "s")
          refine ite_dec (fun c3 => ?_) (fun c3 => ?_)
          · repeat (walk_at "s")
            refine wg_sub ?_
            repeat (walk_at "s")
            refine oset_lst (j := 2) hMb rfl ?_
            exact ⟨_, updM_same, by rw [updM_ne ncb]; exact hMc, fun a h1 h2 => by rw [updM_ne h1]; exact hMo a h1 h2, rfl⟩
          · repeat (walk_at "s")
            refine wg_sub ?_
            repeat (walk_at "s")
            refine oset_lst (j := 2) hMb rfl ?_
            exact ⟨_, updM_same, by rw [updM_ne ncb]; exact hMc, fun a h1 h2 => by rw [updM_ne h1]; exact hMo a h1 h2, rfl⟩
        clear hMb hMc hMo M1
        rintro σ M1 ⟨i2, hMb, hMc, hMo, rfl⟩
        repeat (walk_at "s")
        refine oi_lst (.ref hMb) rfl ?_
        repeat (walk_at "s")
        refine o2_mod (by decide) ?_
        repeat (walk_at "s")
        refine o2_mod (by decide) ?_
        refine wg_sub ?_
        repeat (walk_at "s")
        refine oset_lst (j := 3) hMb rfl ?_
        repeat (walk_at "s")
        exact ⟨_, i2, _, _, by omega, Int.emod_nonneg _ (by decide), Int.emod_lt_of_pos _ (by decide), updM_same, by rw [updM_ne ncb]; exact hMc, fun a h1 h2 => by rw [updM_ne h1]; exact hMo a h1 h2, rfl⟩
      · repeat (walk_at "s")
        exact ⟨i1, i2, i3, _, p0, sd0, sd1, hMb, hMc, hMo, rfl⟩
    · repeat (walk_at "s")
      refine iteF ?_
      repeat (walk_at "s")
      exact ⟨i1, i2, i3, _, p0, sd0, sd1, hMb, hMc, hMo, rfl⟩
  clear hMb hMc hMo p0 sd0 sd1 i1 i2 i3
  rintro σ M1 ⟨i1, i2, i3, x2, p0, sd0, sd1, hMb, hMc, hMo, rfl⟩
  repeat (walk_at "s")
  refine oi_lst (.ref hMb) rfl ?_
  repeat (walk_at "s")
  refine ite_dec (fun c1 => ?_) (fun c1 => ?_)
  · repeat (walk_at "s")
    refine oi_lst (.ref hMb) rfl ?_
    repeat (walk_at "s")
    refine o2_mod hm0 ?_
    repeat (walk_at "s")
    refine oi_lst (.ref hMb) rfl ?_
    repeat (walk_at "s")
    refine o2_div hm0 (by omega) ?_
    refine wg_sub ?_
    repeat (walk_at "s")
    refine oset_lst (j := 2) hMb rfl ?_
    walk_at "s"
    walk_at "s"
    refine we_close ?_
    repeat (walk_at "s")
    refine key i1 (i2 / many) i3 i4 _ p0 sd0 sd1 (Int.emod_nonneg _ (by omega)) (Int.emod_lt_of_pos _ hm0) _ updM_same (by rw [updM_ne ncb]; exact hMc) fun a h1 h2 => by rw [updM_ne h1]; exact hMo a h1 h2
  · repeat (walk_at "s")
    refine oi_lst (.ref hMb) rfl ?_
    repeat (walk_at "s")
    refine oi_lst (.ref hMb) rfl ?_
    repeat (walk_at "s")
    refine o2_mod (by decide) ?_
    refine wg_sub ?_
    repeat (walk_at "s")
    refine oset_lst (j := 3) hMb rfl ?_
    have s0 := Int.emod_nonneg (i3 * 69621 + i4 * 40692 + 1013904223) (show (2147483629 : Int) ≠ 0 by decide)
    have s1 := Int.emod_lt_of_pos (i3 * 69621 + i4 * 40692 + 1013904223) (show (0 : Int) < 2147483629 by decide)
    generalize (i3 * 69621 + i4 * 40692 + 1013904223) % 2147483629 = sd at s0 s1
    have gB : (updM M1 b (.lst [.ref c, .int i1, .int i2, .int sd, .int i4])) b = some (.lst [.ref c, .int i1, .int i2, .int sd, .int i4]) := updM_same
    walk_at "s"
    walk_at "s"
    refine we_close ?_
    repeat (walk_at "s")
    refine oi_lst (.ref gB) rfl ?_
    repeat (walk_at "s")
    refine oi_lst (.ref gB) rfl ?_
    repeat (walk_at "s")
    refine o2_div (by decide) (by decide) ?_
    repeat (walk_at "s")
    refine oi_lst (.ref gB) rfl ?_
    repeat (walk_at "s")
    refine o2_div (by decide) (by decide) ?_
    repeat (walk_at "s")
    refine o2_mod hm0 ?_
    refine key i1 i2 sd i4 _ p0 s0 s1 (Int.emod_nonneg _ (by omega)) (Int.emod_lt_of_pos _ hm0) _ gB (by rw [updM_ne ncb]; exact hMc) fun a h1 h2 => by rw [updM_ne h1]; exact hMo a h1 h2
end G3

set_option Elab.async false
set_option linter.all false
set_option maxRecDepth 100000
set_option maxHeartbeats 4000000
/-! L3: new objects in a heap that is not named; dicts by content: ==, sorted of numbers; texts walked; slices of tuples -/
namespace G3
open PySem PySem.Spec L2
/-- a new object, the heap behind it unsaid -/
theorem newN {M : Mp} {o : MO} {R : VV → Mp → Prop} (h : ∀ p M2, M p = none → LeM M M2 → M2 p = some o → R (.ref p) M2) : ∀ p, M p = none → R (.ref p) (updM M p o) := fun p np => h p _ np (LeM.new np) updM_same
theorem LeM.none {M M' : Mp} {p : Addr} (l : LeM M M') (h : M' p = none) : M p = none := by
  cases e : M p with
  | none => rfl
  | some o => rw [l _ _ e] at h; cases h
section
variable {X : Cx} {a b c e tg : Expr} {es : List Expr} {σ : St3} {M : Mp} {Q : VQ} {D : En} {pos : Pos} {x : Str} {i : Nat} {R : It3 → Mp → Prop}
theorem WA.mono {A A' : List VV → Mp → Prop} (h : WA X es σ M A) (k : ∀ xs M', A xs M' → A' xs M') : WA X es σ M A' := fun σ' H s m =>
  (h σ' H s m).mono fun v H1 ⟨x, M1, t, m1, r, q⟩ => ⟨x, M1, t, m1, r, k _ _ q⟩
theorem we_lstN (h : WA X es σ M fun xs M1 => xs.length ≤ sizeLine ∧ ∀ p M2, M1 p = none → LeM M1 M2 → M2 p = some (.lst xs) → Q (.ref p) M2) : WE X (.List es pos) σ M Q :=
  we_lst (WA.mono h fun xs M1 ⟨hl, q⟩ => ⟨hl, fun p np => q p _ np (LeM.new np) updM_same⟩)
theorem we_dnewN (q : ∀ p M2, M p = none → LeM M M2 → M2 p = some (.dK []) → Q (.ref p) M2) : WE X (.Dict [] [] pos) σ M Q :=
  we_dnew fun p np => q p _ np (LeM.new np) updM_same
/-! texts walked -/
def itS (x : Str) : It3 := ⟨x.cps.size, fun i v => ∃ c, x.cps[i]? = some c ∧ v = .str ⟨#[c]⟩, fun _ => True⟩
theorem wi_str (h : WE X e σ M fun u M1 => ∃ x, u = .str x ∧ R (itS x) M1) : WI X tg e σ M R := fun σ' H s m =>
  wI.of (pi_str wE.pe) (h.run s m fun v H1 u M1 t1 m1 r1 s1 ⟨x, hu, q⟩ => by
    subst hu
    cases r1
    refine ⟨x, rfl, _, M1, t1, m1, ?_, q⟩
    intro i M2 H2 t2 m2 hh hi
    change i ≤ x.cps.size at hi
    by_cases hlt : i < x.cps.size
    · refine .inr ⟨hlt, hlt, fun y H' hy => ?_⟩
      obtain ⟨rfl, c, hc, rfl⟩ := hy
      exact ⟨_, ⟨c, hc, rfl⟩, TM.refl, m2, .str _⟩
    · exact .inl ⟨by show i = x.cps.size; omega, by show x.cps.size ≤ i; omega⟩)
/-- a text not in a text -/
def inS2 (i j : Str) : Bool := !(Builtin.Str.occurrences j i 0 j.length 1).isEmpty
theorem o2_ninTx {i j : Str} (q : Q (.bl (!inS2 i j)) M) : O2 X (compareOp .NotIn) (.str i) (.str j) M Q := fun H v u m r1 r2 => by
  cases r1; cases r2; exact wOp.of op_notin_str ⟨i, j, rfl, rfl, .mk m (.bl _) q⟩
theorem oc_lenS {y : Str} (hz : y.length ≤ sizeLine) (q : Q (.int y.length) M) : OC X (.builtin "len") [.str y] M Q := fun H vs m r => by
  cases r with | cons r1 r2 => cases r1; cases r2; exact wCall.of call_len_str ⟨y, rfl, hz, .mk m (.int _) q⟩
/-! slices of tuples: a tuple -/
theorem we_sliceT {lo hi : Option Expr} {p2 : Pos} (h : WE X e σ M fun u M1 => WO X lo σ M1 fun l M2 => WO X hi σ M2 fun r M3 => ∃ ws, u = .tup ws ∧ Q (.tup (cutW ws l r)) M3) : WE X (.Subscript e (.Slice lo hi none p2) pos) σ M Q := fun σ' H s m => by
  have po : ∀ (o : Option Expr), ∃ t : TO, PO X o t ∧ ∀ {σ' : St} {H : Hp} {M : Mp} {R : Option Int → Mp → Prop} {Z : Option Int → Hp → Prop}, Slots X.K H σ' σ → SimM X.K M H → WO X o σ M R → (∀ i H1 M1, TM H H1 → SimM X.K M1 H1 → Slots X.K H1 σ' σ → R i M1 → Z i H1) → t σ' H Z := fun o => by
    cases o with
    | none => exact ⟨tNoPart, po_none, fun s m h z => z _ _ _ TM.refl m s h⟩
    | some e => exact ⟨_, po_some wE.pe, fun {σ' H M R Z} s m h z => (show WE X e σ M _ from h).run s m fun v H1 u M1 t1 m1 r1 s1 ⟨i, e, q⟩ => by subst e; cases r1; exact ⟨i, rfl, z _ _ _ t1 m1 s1 q⟩⟩
  obtain ⟨t1, p1, k1⟩ := po lo
  obtain ⟨t2, p2', k2⟩ := po hi
  refine wE.of (pe_slice sl_tupA wE.pe p1 p2') (h.run s m fun v H1 u M1 tm1 m1 r1 s1 q1 => k1 s1 m1 q1 fun l H2 M2 tm2 m2 s2 q2 => k2 s2 m2 q2 fun r H3 M3 tm3 m3 s3 q3 => ?_)
  obtain ⟨ws, hu, q⟩ := q3
  subst hu
  obtain ⟨ad, vs, rfl, h1, h2⟩ := (Rv.mono (tm2.trans tm3) _ _ r1).tupv
  refine ⟨ad, vs, rfl, h1, fun ⟨w1, w2⟩ => ⟨.tup ws, _, (tm1.trans tm2).trans tm3, m3, .tup h1 h2, ?_⟩, fun _ p hp => ⟨.tup (cutW ws l r), _, ((tm1.trans tm2).trans tm3).trans (TM.fresh hp), m3.alloc hp, .tup (SqT.of upd_same) ?_, q⟩⟩
  · have e : cutW ws l r = ws := by
      unfold cutW
      rw [h2.length] at w1 w2
      rw [w1, w2]
      simp
    rw [e] at q
    exact q
  · have e : cutV vs l r = (vs.drop (HT.sIx vs.length 0 l)).take (HT.sIx vs.length vs.length r - HT.sIx vs.length 0 l) := rfl
    rw [e]
    unfold cutW
    rw [← h2.length]
    exact Rvs.mono (TM.fresh hp) _ _ ((h2.drop _).take _)
end
/-! dicts of numbers -/
section
variable {β : Type}
abbrev dI (f : β → VV) (l : List (Int × β)) : List (Key × VV) := l.map fun p => (Sum.inl p.1, f p.2)
def getI (l : List (Int × β)) (n : Int) : Option β := (l.find? fun q => decide (q.1 = n)).map (·.2)
theorem inl_eq {a b : Int} : decide ((Sum.inl a : Key) = Sum.inl b) = decide (a = b) := by
  by_cases h : a = b
  · subst h; simp
  · have : (Sum.inl a : Key) ≠ Sum.inl b := fun z => h (Sum.inl.inj z)
    rw [decide_eq_false h, decide_eq_false this]
theorem dI_look (f : β → VV) (n : Int) : ∀ l : List (Int × β), lookW (dI f l) (.inl n) = (getI l n).map f
  | [] => rfl
  | p :: l => by
    have ih := dI_look f n l
    unfold lookW getI at ih ⊢
    simp only [dI, List.map_cons, List.find?_cons, inl_eq]
    cases h : decide (p.1 = n) with
    | true => simp
    | false => exact ih
theorem dI_keys (f : β → VV) (l : List (Int × β)) : (dI f l).map (·.1) = (l.map (·.1)).map Sum.inl := by
  simp only [dI, List.map_map]; rfl
theorem getI_mem {l : List (Int × β)} {n : Int} {b : β} (h : getI l n = some b) : (n, b) ∈ l := by
  unfold getI at h
  cases hf : l.find? fun q => decide (q.1 = n) with
  | none => rw [hf] at h; cases h
  | some q =>
    rw [hf] at h
    have h1 := List.find?_some hf
    have h2 := List.mem_of_find?_eq_some hf
    simp only [decide_eq_true_eq] at h1
    simp only [Option.map_some, Option.some.injEq] at h
    rw [← h, ← h1]
    exact h2
theorem getI_of {l : List (Int × β)} (hn : (l.map (·.1)).Nodup) {n : Int} {b : β} (h : (n, b) ∈ l) : getI l n = some b := by
  induction l with
  | nil => cases h
  | cons p l ih =>
    simp only [List.map_cons, List.nodup_cons] at hn
    unfold getI
    rw [List.find?_cons]
    rcases List.mem_cons.mp h with e | h
    · subst e; simp
    · have : ¬ (p.1 = n) := fun z => hn.1 (List.mem_map.mpr ⟨(n, b), h, z.symm⟩)
      rw [decide_eq_false this]
      exact ih hn.2 h
end
section
variable {X : Cx} {M : Mp} {Q : VQ} {a b : Addr} {β : Type} {f : β → VV}
theorem oc_sortDI (hc : X.calm = true) {kvs : List (Key × VV)} {ks : List Int} (h : DkAt M a kvs) (hk : kvs.map (·.1) = ks.map Sum.inl) (hz : ks.length < 64) (q : ∀ (ys : List Int) p, ys.Perm ks → ys.Pairwise (· ≤ ·) → M p = none → Q (.ref p) (updM M p (.lst (ys.map .int)))) : OC X (.builtin "sorted") [.ref a] M Q := fun H vs m r => by
  cases r with
  | cons r1 r2 =>
    cases r2; cases r1
    obtain ⟨gs, e, rg⟩ := h.v m
    exact wCall.of (call_sortedDI hc) ⟨a, gs, ks, rfl, e, by rw [rg.keys]; exact hk, hz, fun ys l hp hs hl => ⟨.ref l, _, TM.fresh hl, m.putL (TM.fresh hl) (.inl hl) Rvs.of_ints, .ref l, q ys l hp hs (m.no hl)⟩⟩
/-- rising keys: sorted tells them as they stand -/
theorem oc_sortI (hc : X.calm = true) {l : List (Int × β)} (h : DkAt M a (dI f l)) (hr : (l.map (·.1)).Pairwise (· ≤ ·)) (hz : l.length < 64) (q : ∀ p, M p = none → Q (.ref p) (updM M p (.lst ((l.map (·.1)).map .int)))) : OC X (.builtin "sorted") [.ref a] M Q :=
  oc_sortDI hc h (dI_keys f l) (by rw [List.length_map]; exact hz) fun ys p hp hs np => by
    have e : ys = l.map (·.1) := hp.eq_of_pairwise (fun x y _ _ h1 h2 => Int.le_antisymm h1 h2) hs hr
    rw [e]; exact q p np
theorem oc_sortSN {g : β → VV} (hc : X.calm = true) {l : List (Str × β)} (h : DkAt M a (dS g l)) (hz : l.length < 64) (q : ∀ p M2, M p = none → LeM M M2 → M2 p = some (.lst ((srt (l.map (·.1))).map .str)) → Q (.ref p) M2) : OC X (.builtin "sorted") [.ref a] M Q :=
  oc_sortS hc h hz fun p np => q p _ np (LeM.new np) updM_same
theorem oc_sortIN (hc : X.calm = true) {l : List (Int × β)} (h : DkAt M a (dI f l)) (hr : (l.map (·.1)).Pairwise (· ≤ ·)) (hz : l.length < 64) (q : ∀ p M2, M p = none → LeM M M2 → M2 p = some (.lst ((l.map (·.1)).map .int)) → Q (.ref p) M2) : OC X (.builtin "sorted") [.ref a] M Q :=
  oc_sortI hc h hr hz fun p np => q p _ np (LeM.new np) updM_same
theorem oc_dictDN {kvs : List (Key × VV)} (h : DkAt M a kvs) (q : ∀ p M2, M p = none → LeM M M2 → M2 p = some (.dK kvs) → Q (.ref p) M2) : OC X (.type "dict") [.ref a] M Q :=
  oc_dictD h fun p np => q p _ np (LeM.new np) updM_same
theorem oi_dI {N : List Str} {sc : Scope} {fl : Bool} {k : Nat} {P : Program} {w : World} {K : PySem.W.Frag} {mg : Str → Option Value} {base : Heap} {CX : CXT} {l : List (Int × β)} {n : Int} {b : β} (B : Bd P w K mg base CX N sc fl k X) (h : DkAt M a (dI f l)) (e : getI l n = some b) (q : Q (f b) M) : OI X (.ref a) (.int n) M Q :=
  oi_dic (z := f b) B (by have := Dg.k (.inl n) h; rw [dI_look, e] at this; exact this) q
theorem o2_inI {N : List Str} {sc : Scope} {fl : Bool} {k : Nat} {P : Program} {w : World} {K : PySem.W.Frag} {mg : Str → Option Value} {base : Heap} {CX : CXT} {l : List (Int × β)} {n : Int} (B : Bd P w K mg base CX N sc fl k X) (h : DkAt M a (dI f l)) (q : Q (.bl (getI l n).isSome) M) : O2 X (compareOp .In) (.int n) (.ref a) M Q :=
  o2_inD2 (o := lookW (dI f l) (.inl n)) B (Dg.k (.inl n) h) (by rw [dI_look, Option.isSome_map]; exact q)
end
/-! == of dicts of data -/
section
open PySem.W
variable {β : Type} [DecidableEq β] [Datum β]
abbrev dG (f : β → VV) (l : List (Key × β)) : List (Key × VV) := l.map fun p => (p.1, f p.2)
def lookB (l : List (Key × β)) (k : Key) : Option β := (l.find? fun q => decide (q.1 = k)).map (·.2)
theorem dG_look (f : β → VV) (k : Key) : ∀ l : List (Key × β), lookW (dG f l) k = (lookB l k).map f
  | [] => rfl
  | p :: l => by
    have ih := dG_look f k l
    unfold lookW lookB at ih ⊢
    simp only [dG, List.map_cons, List.find?_cons]
    cases h : decide (p.1 = k) with
    | true => simp
    | false => exact ih
/-- the same keys, the same things -/
def eqDF (l1 l2 : List (Key × β)) : Bool := l1.length == l2.length && l1.all fun p => decide (lookB l2 p.1 = some p.2)
theorem dic_hits {X : Cx} {M : Mp} {H : Hp} {s : Shared} {pins : List (Addr × Obj)} {σ : L2.St} {A : Around} {f : β → VV} {l2 : List (Key × β)} {ls : List (Key × V)} {vb : List (Key × Value)} (I : Inv X pins σ H s) (m : SimM X.K M H) (hu : A.units + Datum.depth β < cLine) (hd : ∀ v, DW M (f v) (Datum.toD v))
    (rl : Rkv X.K H ls (dG f l2)) (rb : KV ls vb) : ∀ (l : List (Key × β)) (ks : List (Key × V)) (va : List (Key × Value)), KV ks va → Rkv X.K H ks (dG f l) → KeqHitsP X.prog X.w A s vb va (l.all fun p => decide (lookB l2 p.1 = some p.2))
  | [], ks, va, ra, rk => by
    cases rk
    unfold KV at ra
    cases ra
    exact .nil
  | (k, b) :: l, ks, va, ra, rk => by
    cases rk with
    | @cons _ v _ ks' _ hv rk' =>
      unfold KV at ra
      cases ra with
      | @cons _ q _ va' hq ra' =>
        obtain ⟨k', u⟩ := q
        obtain ⟨e1, ru⟩ := hq
        have e1 : k = k' := e1
        subst e1
        have ih := dic_hits I m hu hd rl rb l ks' va' ra' rk'
        have rr := rb.val k
        have lk := rl.val k
        rw [dG_look] at lk
        cases hl : lookB l2 k with
        | none =>
          rw [hl] at lk
          rw [lk.2 rfl] at rr
          have en : valueAt vb k = none := by
            cases h : valueAt vb k with
            | none => rfl
            | some z => rw [h] at rr; exact (show False from rr).elim
          have : (((k, b) :: l).all fun p => decide (lookB l2 p.1 = some p.2)) = false := by
            rw [List.all_cons, hl]; rfl
          rw [this]
          exact .miss en
        | some b2 =>
          rw [hl] at lk
          obtain ⟨z, ez, rz⟩ := lk.1 _ rfl
          rw [ez] at rr
          obtain ⟨y, hy, ry⟩ := rr.some_of
          obtain ⟨as, r1⟩ := Dp.reads I _ _ _ ((hd b).dp m _ _ _ hv) ru
          obtain ⟨bs, r2⟩ := Dp.reads I _ _ _ ((hd b2).dp m _ _ _ rz) ry
          have eq := (SeqAt.eqAt_plain _ _ A s _ _ _ _ r1 r2 (Datum.plain b) (Datum.plain b2) (by
            have := Datum.depth_le b
            omega)).eqP (prog := X.prog) (w := X.w)
          rw [Datum.eqv] at eq
          have : (((k, b) :: l).all fun p => decide (lookB l2 p.1 = some p.2)) = (decide (b = b2) && l.all fun p => decide (lookB l2 p.1 = some p.2)) := by
            rw [List.all_cons, hl]
            congr 1
            rw [decide_eq_decide]
            exact ⟨fun h => (Option.some.inj h).symm, fun h => by rw [h]⟩
          rw [this]
          exact .hit hy eq ih
theorem eqdic_run {X : Cx} {M : Mp} {H : Hp} {s : Shared} {pins : List (Addr × Obj)} {σ : L2.St} {A : Around} {a b : Addr} {f : β → VV} {l1 l2 : List (Key × β)} (I : Inv X pins σ H s) (m : SimM X.K M H) (hu : A.units + 1 + Datum.depth β < cLine) (ha : M a = some (.dK (dG f l1))) (hb : M b = some (.dK (dG f l2))) (hd : ∀ v, DW M (f v) (Datum.toD v))
    (E Q : Value → Shared → Prop) (q : Q (.bool (eqDF l1 l2)) s) : wpAny (model X.prog X.w) A (richCompare .Eq (.ref a) (.ref b)) Q E s := by
  obtain ⟨ks, ha, rk⟩ := m _ _ ha
  obtain ⟨ls, hb, rl⟩ := m _ _ hb
  obtain ⟨_, ya, va, ra, da⟩ := (show ObjOk X.prog X.w H s.heap a (.dK ks) from I.hok a _ ha)
  obtain ⟨_, yb, vb, rb, db⟩ := (show ObjOk X.prog X.w H s.heap b (.dK ls) from I.hok b _ hb)
  refine PySem.W.rcP_dicts (knd := mixKind X.prog X.w) ya yb da db (by omega) (fun _ => dic_hits I m (A := A.in1) (by show A.units + 1 + _ < _; omega) hd rl rb l1 ks va ra rk) E Q ?_
  have e1 : va.length = l1.length := by rw [← ra.length, rk.len, List.length_map]
  have e2 : vb.length = l2.length := by rw [← rb.length, rl.len, List.length_map]
  rw [e1, e2]
  exact q
theorem o2_eqDic {X : Cx} {M : Mp} {Q : VQ} {a b : Addr} {f : β → VV} {l1 l2 : List (Key × β)} (hu : X.A.units + 1 + Datum.depth β < cLine) (ha : M a = some (.dK (dG f l1))) (hb : M b = some (.dK (dG f l2))) (hd : ∀ v, DW M (f v) (Datum.toD v)) (q : Q (.bl (eqDF l1 l2)) M) : O2 X (compareOp .Eq) (.ref a) (.ref b) M Q := fun H v u m r1 r2 pins s σ v1 u1 I z1 z2 => by
  cases r1; cases r2; cases z1; cases z2
  exact eqdic_run I m hu ha hb hd _ _ ⟨.bl _, H, I, rfl, .mk m (.bl _) q⟩
theorem eqDF_self {l : List (Key × β)} (h : (l.map (·.1)).Nodup) : eqDF l l = true := by
  unfold eqDF
  rw [Bool.and_eq_true]
  refine ⟨by simp, List.all_eq_true.mpr fun p hp => ?_⟩
  simp only [decide_eq_true_eq]
  unfold lookB
  induction l with
  | nil => cases hp
  | cons q l ih =>
    rw [List.find?_cons]
    simp only [List.map_cons, List.nodup_cons] at h
    rcases List.mem_cons.mp hp with e | hp'
    · subst e; simp
    · have : ¬ (q.1 = p.1) := fun z => h.1 (List.mem_map.mpr ⟨p, hp', z.symm⟩)
      rw [decide_eq_false this]
      exact ih h.2 hp'
theorem dS_dG {β : Type} (f : β → VV) (l : List (Str × β)) : dS f l = dG f (l.map fun p => ((Sum.inr p.1 : Key), p.2)) := by
  simp only [dS, dG, List.map_map]; rfl
theorem dI_dG {β : Type} (f : β → VV) (l : List (Int × β)) : dI f l = dG f (l.map fun p => ((Sum.inl p.1 : Key), p.2)) := by
  simp only [dI, dG, List.map_map]; rfl
end
end G3

set_option Elab.async false
set_option linter.all false
set_option maxRecDepth 100000
set_option maxHeartbeats 4000000
/-! values alike as data, dicts among them -/
namespace G3
open PySem PySem.Spec L2
/-- the same keys in any order: all texts or all numbers -/
inductive KeysOk : List Key → List Key → Prop
  | str {ks ls : List Str} : ks.Perm ls → ks.length < 64 → KeysOk (ks.map Sum.inr) (ls.map Sum.inr)
  | int {ks ls : List Int} : ks.Perm ls → ks.length < 64 → KeysOk (ks.map Sum.inl) (ls.map Sum.inl)
inductive DE2 : Mp → Nat → VV → VV → Prop
  | non (M n) : DE2 M n .non .non
  | bl (M n b) : DE2 M n (.bl b) (.bl b)
  | int (M n i) : DE2 M n (.int i) (.int i)
  | str (M n x) : DE2 M n (.str x) (.str x)
  | lst {M n u v us vs} : Lst M u us → Lst M v vs → us.length = vs.length → us.length ≤ 100000 → (∀ (j : Nat) x y, us[j]? = some x → vs[j]? = some y → DE2 M n x y) → DE2 M (n + 1) u v
  | tup {M n us vs} : us.length = vs.length → us.length ≤ 100000 → (∀ (j : Nat) x y, us[j]? = some x → vs[j]? = some y → DE2 M n x y) → DE2 M (n + 1) (.tup us) (.tup vs)
  | dic {M n a b kvs kws} : M a = some (.dK kvs) → M b = some (.dK kws) → a ≠ b → KeysOk (kvs.map (·.1)) (kws.map (·.1)) → (∀ k y, (k, y) ∈ kws → (∃ x, lookW kvs k = some x) ∧ lookW kws k = some y) → (∀ k y x, (k, y) ∈ kws → lookW kvs k = some x → DE2 (dropM M b) n x y) → DE2 M (n + 1) (.ref a) (.ref b)
theorem dropM_mono {M M' : Mp} {b : Addr} (l : LeM M M') : LeM (dropM M b) (dropM M' b) := fun x o e => by
  unfold dropM at e ⊢
  split at e
  · cases e
  · rename_i h
    rw [if_neg h]; exact l _ _ e
theorem DE2.le {M M' : Mp} (l : LeM M M') : ∀ {n : Nat} {u v : VV}, DE2 M n u v → DE2 M' n u v := fun {n u v} h => by
  induction h generalizing M' with
  | non M n => exact .non _ n
  | bl M n b => exact .bl _ n b
  | int M n b => exact .int _ n b
  | str M n b => exact .str _ n b
  | lst h1 h2 h3 h4 _ ih => exact .lst (h1.le l) (h2.le l) h3 h4 fun j x y e1 e2 => ih j x y e1 e2 l
  | tup h3 h4 _ ih => exact .tup h3 h4 fun j x y e1 e2 => ih j x y e1 e2 l
  | dic h1 h2 hab hk hx _ ih => exact .dic (l _ _ h1) (l _ _ h2) hab hk hx fun k y x hm e => ih k y x hm e (dropM_mono l)
theorem DE.de2 {M : Mp} {n : Nat} {u v : VV} (h : DE M n u v) : DE2 M n u v := by
  induction h with
  | non n => exact .non _ n
  | bl n b => exact .bl _ n b
  | int n b => exact .int _ n b
  | str n b => exact .str _ n b
  | lst h1 h2 h3 h4 _ ih => exact .lst h1 h2 h3 h4 ih
  | tup h3 h4 _ ih => exact .tup h3 h4 ih
def spSameD (n : Nat) : Sp3 := fun ws M Q => ∃ u v, ws = [u, v] ∧ DE2 M n u v ∧ Q (.bl true) M
/-- the keys of a locked dict -/
theorem itm_keyL {M : Mp} {a : Addr} {L : MO} {l : List (Key × VV)} (hl : M a = some L) (hz : l.length ≤ sizeLine) : Itm (itKey a L l) M l (fun z y => y = kW z.1) :=
  ⟨rfl, fun i u hi ⟨k, w, e, eu⟩ => ⟨(k, w), e, eu⟩, fun M' l' => l' _ _ hl, hz⟩
theorem KeysOk.len {ks ls : List Key} (h : KeysOk ks ls) : ls.length < 64 := by
  cases h with
  | str p l => rw [List.length_map, ← p.length_eq]; exact l
  | int p l => rw [List.length_map, ← p.length_eq]; exact l
end G3

set_option Elab.async false
set_option linter.all false
set_option maxRecDepth 100000
set_option maxHeartbeats 4000000
/-! dict comprehensions with a test; a new dict locked for good; targets in targets -/
namespace G3
open PySem PySem.Spec L2
section
variable {P : Program} {w : World} {K : PySem.W.Frag} {mg : Str → Option Value} {base : Heap} {CX : CXT} {N : List Str} {sc scope : Scope} {fl : Bool} {k : Nat}
variable {X : Cx} {kx vx tg e c : Expr} {ifs : List Expr} {es : List Expr} {σ : St3} {M : Mp} {Q : VQ} {pos : Pos} {g : TG} {sel : VV → List VV → Prop}
theorem WT.mono {R R' : Bool → Mp → Prop} (h : WT X e σ M R) (k : ∀ b M', R b M' → R' b M') : WT X e σ M R' := fun σ' H s m =>
  (h σ' H s m).mono fun b H1 ⟨M1, t, m1, q⟩ => ⟨M1, t, m1, k _ _ q⟩
theorem compD_filter {α : Type} {own : List Nat} {it : It3} {R : VQ} {sc' : Scope} (xs : List α) {Pz : α → VV → Prop} (hi : Itm it M xs Pz) (t : α → Bool) (kf : α → Key) (f : α → VV)
    (he : ∀ z u M', z ∈ xs → Pz z u → LeM M M' → ∃ us, sel u us ∧ ∀ Y : Cx, Bd P w K mg base CX N sc' false k Y → WT Y c (putA (wipeA σ own) own us) M' fun b M1 => b = t z ∧ LeM M' M1 ∧ (b = true → ∀ Y' : Cx, Bd P w K mg base CX N sc' false k Y' → WE Y' kx (putA (wipeA σ own) own us) M1 fun y M2 => y = kW (kf z) ∧ LeM M1 M2 ∧ ∀ Y2 : Cx, Bd P w K mg base CX N sc' false k Y2 → WE Y2 vx (putA (wipeA σ own) own us) M2 fun v M3 => v = f z ∧ LeM M2 M3))
    (q : ∀ D, M D = none → ∀ M', LeM (updM M D (.dK (foldW ((xs.filter t).map fun z => (kf z, f z)) []))) M' → R (.ref D) M') : CompD P w K mg base CX N sc' k kx vx [c] own sel R it σ M := fun D hD => by
  obtain ⟨hn, hitem, hhold, hz⟩ := hi
  refine ⟨fun j M' => LeM (updM M D (.dK (foldW (((xs.take j).filter t).map fun z => (kf z, f z)) []))) M', LeM.refl, fun j M' _ l => hhold _ ((LeM.new hD).trans l), ?_, ?_⟩
  · rintro j u M' hj hu l
    obtain ⟨z, hz', pz⟩ := hitem j u hj hu
    obtain ⟨us, hs, hb⟩ := he z u M' (List.mem_of_getElem? hz') pz ((LeM.new hD).trans l)
    refine ⟨us, hs, fun Y B => ?_⟩
    refine (hb Y B).mono fun b M1 ⟨eb, l1, hE⟩ => ?_
    have ht : (xs.take (j + 1)).filter t = (xs.take j).filter t ++ (if t z = true then [z] else []) := by
      rw [List.take_add_one, hz', List.filter_append]
      congr 1
      show [z].filter t = _
      cases h : t z <;> simp [h]
    cases hb' : t z with
    | false =>
      rw [hb'] at eb
      subst eb
      refine iteF ?_
      show LeM (updM M D (.dK (foldW (((xs.take (j + 1)).filter t).map fun z => (kf z, f z)) []))) M1
      rw [ht, hb', if_neg Bool.false_ne_true, List.append_nil]
      exact l.trans l1
    | true =>
      rw [hb'] at eb
      subst eb
      refine iteT ?_
      intro Y' B'
      refine (hE rfl Y' B').mono fun y M2 ⟨ey, l2, hv⟩ => fun Y2 B2 => (hv Y2 B2).mono fun v M3 ⟨ev, l3⟩ => ?_
      subst ev
      refine ⟨kf z, _, ey, l3 _ _ (l2 _ _ (l1 _ _ (l _ _ updM_same))), ?_, ?_⟩
      · have h1 := foldW_len (((xs.take j).filter t).map fun z => (kf z, f z)) []
        have h2 := List.length_filter_le t (xs.take j)
        rw [List.length_map, List.length_nil] at h1
        rw [List.length_take] at h2
        omega
      · have e : foldW (((xs.take (j + 1)).filter t).map fun z => (kf z, f z)) [] = putW (foldW (((xs.take j).filter t).map fun z => (kf z, f z)) []) (kf z) (f z) := by
          rw [ht, hb', if_pos rfl]
          unfold foldW
          simp
        show LeM (updM M D (.dK (foldW (((xs.take (j + 1)).filter t).map fun z => (kf z, f z)) []))) _
        rw [e]
        have l4 := LeM.upd (p := D) (o := .dK (putW (foldW (((xs.take j).filter t).map fun z => (kf z, f z)) []) (kf z) (f z))) (((l.trans l1).trans l2).trans l3)
        rw [updM_updM] at l4
        exact l4
  · rintro M' l
    rw [hn, List.take_length] at l
    exact q D hD M' l
open PyProof.Rows in
theorem ps_setDc {X : Cx} {i : Nat} {y : Str} {py : Pos} {kx vx tg iter : Expr} {ifs : List Expr} {scope : Scope} {own : List (Str × Nat)} {pos spos : Pos} {wi : TI} {g : TG} {tt : TT} {tk tv : TE} (hc : X.calm = true) (hN : X.N.Nodup) (hy : X.N[i]? = some y) (hyl : X.env.scope.names.lookup y = some .local)
    (hsw : swapsWith (.DictComp kx vx [⟨tg, iter, ifs, 0⟩] scope pos) (some (.Name y py)) spos.line X.env = pure true) (hi : PI X tg iter wi) (ok : BlkOk X.N X.env.scope scope own)
    (hg : ∀ (s : Shared) (H : Hp) (C : Addr) (cl : List (Str × Addr)) (fp : List Addr), PG (X.blk s H scope (compEnvC scope cl C X.env) fp) tg g) (ht : ∀ (s : Shared) (H : Hp) (C : Addr) (cl : List (Str × Addr)) (fp : List Addr), PTs (X.blk s H scope (compEnvC scope cl C X.env) fp) ifs tt)
    (hk : ∀ (s : Shared) (H : Hp) (C : Addr) (cl : List (Str × Addr)) (fp : List Addr), PE (X.blk s H scope (compEnvC scope cl C X.env) fp) kx tk)
    (he : ∀ (s : Shared) (H : Hp) (C : Addr) (cl : List (Str × Addr)) (fp : List Addr), PE (X.blk s H scope (compEnvC scope cl C X.env) fp) vx tv) (hs : ∀ x, foldedSetIterable iter X.env x = pure x := by intro _; rfl) :
    PS X (.Assign [.Name y py] (.DictComp kx vx [⟨tg, iter, ifs, 0⟩] scope pos) spos) (tAsg (tDc wi g tt tk tv (own.map (·.2))) (gName i)) := by
  refine ⟨fun pins s σ H D I h => ?_⟩
  rw [exec_Assign_Name_used _ _ _ _ hsw]
  refine wpAny_bind (wpAny_standAt (wpAny_bind ?_))
  show wpAny _ X.A (do let _ ← comprehension (.DictComp kx vx [⟨tg, iter, ifs, 0⟩] scope pos) scope X.env (firstIterPos [⟨tg, iter, ifs, 0⟩] pos) newDict false (eval iter X.env) (some (assign (.Name y py) X.env))) _ _ s
  have h : tDc wi g tt tk tv (own.map (·.2)) σ H (fun x H1 => gName i x σ H1 D.nx) := h
  refine wpAny_bind (thn (dc_core (Qf := fun _ s' => SP X pins D .next s') hc hN I hi ok hg ht hk he hs h fun L C s' m H' I' q hn f => ?_) fun _ s' hq => wpAny_pure (wpAny_pure hq))
  show wpAny _ _ (assign (.Name y py) X.env (.ref L)) _ _ _
  refine wpAny_assign_Name (store_ok2 (v := V.ref L) I' hN hy (.inl hyl) rfl (fun s2 I2 ⟨a, sb, ha⟩ => ?_) (.inr hyl))
  obtain ⟨f0, f1, f2, f3, f4, f5⟩ := f
  have haC : C ≠ a := by
    rcases ha with z | z
    · rw [z]; exact f1
    · exact fun e => f4 y a z e.symm
  refine ⟨m, hn.sameBut sb haC, fun h3 sb3 => ?_⟩
  exact ⟨_, H', I2.turned (t' := s2.toks) (fun b o hb e => (sb3.2 b hb).trans e) f0 f1 f3 f4 f5, q⟩
/-- y = {..}, y a local name on the same line -/
theorem ws_setDc {D : En} (B : Bd P w K mg base CX N sc fl k X) (own : List (Str × Nat)) {spos : Pos} {y : Str} {py : Pos} {iy : Nat} (hiy : At N iy y) (hyl : sc.names.lookup y = some .local) (hsw : swapsWith (.DictComp kx vx [⟨tg, e, ifs, 0⟩] scope pos) (some (.Name y py)) spos.line (cenv sc) = pure true) (hok : blkC N sc scope own = true) (hif : ifs.length ≤ 1)
    (hg : ∀ (s0 : Shared) (H0 : Hp) (C : Addr) (cl : List (Str × Addr)) (fp : List Addr), PG (X.blk s0 H0 scope (compEnvC scope cl C X.env) fp) tg g) (ct : CTg K g (own.map (·.2)) sel)
    (h : WI X tg e σ M fun it M1 => CompD P w K mg base CX N (scBlk scope sc) k kx vx ifs (own.map (·.2)) sel (fun u M1 => D.nx (σ.set iy (some u)) M1) it σ M1)
    (hs : ∀ x, foldedSetIterable e X.env x = pure x := by intro _; rfl) : WS X (.Assign [.Name y py] (.DictComp kx vx [⟨tg, e, ifs, 0⟩] scope pos) spos) σ M D := fun σ' H s m => by
  have ht : ∀ (s0 : Shared) (H0 : Hp) (C : Addr) (cl : List (Str × Addr)) (fp : List Addr), PTs (X.blk s0 H0 scope (compEnvC scope cl C X.env) fp) ifs (ttI X scope ifs) := fun s0 H0 C cl fp => by
    match ifs, hif with
    | [], _ => exact pts_nil
    | [c], _ => exact B.ptB s0 H0 C cl fp
    | _ :: _ :: _, hif => exact absurd hif (by simp)
  exact wS.of (ps_setDc (i := iy) (own := own) (tt := ttI X scope ifs) (g := g) (tk := teB X scope kx) (tv := teB X scope vx) B.calm (by rw [B.eN]; exact B.nd) (by rw [B.eN]; exact hiy.get) (by rw [B.esc]; exact hyl) (by rw [swWith_of (env' := cenv sc) (by rw [B.esc]; rfl)]; exact hsw) wI.pi (by rw [B.eN, B.esc]; exact blkOk_by hok)
    hg ht (fun s0 H0 C cl fp => ⟨fun pins s σ H R I h => h s0 H0 C cl fp pins s I⟩) (fun s0 H0 C cl fp => ⟨fun pins s σ H R I h => h s0 H0 C cl fp pins s I⟩) hs) (dcI_read B ct h s m fun v H' ⟨u, M', t, m', r, q⟩ => ⟨_, M', t, (s.mono t).set iy r, m', q⟩)
/-- a dict that nobody else has, locked for good -/
theorem we_lkD (h : WE X e σ M fun u M1 => ∃ p kvs, u = .ref p ∧ M1 p = some (.dK kvs) ∧ ∀ o xs, Q u (updM M1 p (.lk o xs kvs))) : WE X e σ M Q := fun σ' H s m =>
  wE.lockd (h σ' H s m) fun v H1 ⟨w', M1, t, m1, r, p, kvs, eu, e, q⟩ => by
    subst eu; cases r
    obtain ⟨xs, hx, hh⟩ := lock_in m1 e
    refine ⟨p, _, hx, trivial, fun ob => ?_⟩
    obtain ⟨t', m'⟩ := hh ob
    exact ⟨.ref p, _, t.trans t', m', .ref p, q ob xs⟩
/-- a target in a target -/
theorem wgs_any {t : Expr} {ts : List Expr} {R : St3 → Mp → Prop} {u : VV} {us : List VV} (h : WG X t u σ M fun σ1 M1 => WGs X ts us σ1 M1 R) (hs : (assignEach (t :: ts) X.env).map (·.2) = assign t X.env :: (assignEach ts X.env).map (·.2) := by rfl) : WGs X (t :: ts) (u :: us) σ M R := fun σ' H vs s m r => by
  cases r with
  | cons r1 r2 =>
    exact wGs.of (pgs_cons wG.pg wGs.pgs hs) ⟨_, _, rfl, (h σ' H _ s m r1).mono fun σ1 H1 ⟨σ2, M2, t2, s2, m2, q⟩ => (q σ1 H1 _ s2 m2 (Rvs.mono t2 _ _ r2)).mono fun σ3 H3 z => PoS.tr t2 z⟩
end
/-- a dict is unlocked again -/
theorem LeM.unlock {M M' : Mp} {p : Addr} {o : Obj} {xs : List (Key × V)} {kvs : List (Key × VV)} (e : M p = some (.dK kvs)) (l : LeM (updM M p (.lk o xs kvs)) M') : LeM M (updM M' p (.dK kvs)) := fun b u h => by
  by_cases hb : b = p
  · subst hb; rw [updM_same, ← h, e]
  · rw [updM_ne hb]; exact l _ _ (by rw [updM_ne hb]; exact h)
theorem itm_valI {β : Type} {M : Mp} {a : Addr} {L : MO} {f : β → VV} {l : List (Int × β)} (hl : M a = some L) (hz : l.length ≤ sizeLine) : Itm (itVal a L (dI f l)) M l (fun z y => y = f z.2) :=
  ⟨by show (dI f l).length = _; rw [List.length_map], fun j u _ ⟨k, e⟩ => by
    rw [List.getElem?_map] at e
    cases h : l[j]? with
    | none => rw [h] at e; cases e
    | some z => rw [h] at e; cases e; exact ⟨z, rfl, rfl⟩, fun M' l' => l' _ _ hl, hz⟩
theorem itm_itmI {β : Type} {M : Mp} {a : Addr} {L : MO} {f : β → VV} {l : List (Int × β)} (hl : M a = some L) (hz : l.length ≤ sizeLine) : Itm (itItm a L (dI f l)) M l (fun z y => y = .tup [.int z.1, f z.2]) :=
  ⟨by show (dI f l).length = _; rw [List.length_map], fun j u _ ⟨k, w, e, eu⟩ => by
    rw [List.getElem?_map] at e
    cases h : l[j]? with
    | none => rw [h] at e; cases e
    | some z => rw [h] at e; cases e; exact ⟨z, rfl, eu⟩, fun M' l' => l' _ _ hl, hz⟩
end G3

set_option Elab.async false
set_option linter.all false
set_option maxRecDepth 100000
set_option maxHeartbeats 4000000
/-! surveys in plain Lean; promises -/
namespace G3
open PySem PySem.Spec L2 PySem.W
abbrev Pt := Int × Int
def vat : Option Pt → VV
  | none => .non
  | some p => .tup [.int p.1, .int p.2]
structure Rdg where
  one : Str
  two : Str
  ac : Int
  up : Int
  we : Int
abbrev vrd (r : Rdg) : VV := .tup [.str r.one, .str r.two, .int r.ac, .int r.up, .int r.we]
structure Sv where
  marks : List (Str × Option Pt)
  book : List (Int × Rdg)
def In999 (i : Int) : Prop := -999 ≤ i ∧ i ≤ 999
structure RdOk (names : List Str) (r : Rdg) : Prop where
  o : r.one ∈ names
  t : r.two ∈ names
  ne : r.one ≠ r.two
  ac : In999 r.ac
  up : In999 r.up
  we : 1 ≤ r.we ∧ r.we ≤ 9
def AtOk (a : Option Pt) : Prop := ∀ p, a = some p → In999 p.1 ∧ In999 p.2
structure SvOk (s : Sv) : Prop where
  dm : (s.marks.map (·.1)).Nodup
  nm : ∀ p ∈ s.marks, Nme p.1
  at_ : ∀ p ∈ s.marks, AtOk p.2
  lm : s.marks.length ≤ 20
  rise : (s.book.map (·.1)).Pairwise (· < ·)
  rd : ∀ p ∈ s.book, RdOk (s.marks.map (·.1)) p.2
  lb : s.book.length ≤ 24
theorem SvOk.le {s : Sv} (h : SvOk s) : (s.book.map (·.1)).Pairwise (· ≤ ·) := h.rise.imp fun h => Int.le_of_lt h
theorem SvOk.db {s : Sv} (h : SvOk s) : (s.book.map (·.1)).Nodup := h.rise.imp fun h => Int.ne_of_lt h
/-- two names in order -/
def ord2 (a b : Str) : List Str := [a, b].mergeSort fun x y => !DatumOrd.lt y x
theorem ord2_perm (a b : Str) : (ord2 a b).Perm [a, b] := List.mergeSort_perm _ _
def loS (a b : Str) : Str := (ord2 a b).getD 0 a
def hiS (a b : Str) : Str := (ord2 a b).getD 1 a
theorem ord2_is (a b : Str) : ord2 a b = [loS a b, hiS a b] := by
  have l := (ord2_perm a b).length_eq
  unfold loS hiS
  match h : ord2 a b, l with
  | [x, y], _ => rfl
theorem lo_mem (a b : Str) : loS a b = a ∨ loS a b = b := by
  have h : loS a b ∈ [a, b] := (ord2_perm a b).mem_iff.mp (by rw [ord2_is]; simp)
  simpa using h
/-- the first names of those that hang together -/
def mergeF (h : List (Str × Str)) (p : Str × Str) : List (Str × Str) :=
  if loS ((getS h p.1).getD p.1) ((getS h p.2).getD p.2) = hiS ((getS h p.1).getD p.1) ((getS h p.2).getD p.2) then h
  else h.map fun q => (q.1, if q.2 = hiS ((getS h p.1).getD p.1) ((getS h p.2).getD p.2) then loS ((getS h p.1).getD p.1) ((getS h p.2).getD p.2) else q.2)
def headsF (names : List Str) (pairs : List (Str × Str)) : List (Str × Str) := pairs.foldl mergeF (names.map fun n => (n, n))
structure HdOk (names : List Str) (h : List (Str × Str)) : Prop where
  k : h.map (·.1) = names
  v : ∀ p ∈ h, p.2 ∈ names
theorem HdOk.at {names : List Str} {h : List (Str × Str)} (H : HdOk names h) {n : Str} (hn : n ∈ names) : ∃ x, getS h n = some x ∧ x ∈ names := by
  obtain ⟨x, hx⟩ := Option.isSome_iff_exists.mp (getS_isSome.mpr (by rw [H.k]; exact hn))
  exact ⟨x, hx, H.v _ (getS_mem hx)⟩
theorem merge_ok {names : List Str} {h : List (Str × Str)} (H : HdOk names h) {p : Str × Str} (h1 : p.1 ∈ names) (h2 : p.2 ∈ names) : HdOk names (mergeF h p) := by
  obtain ⟨x, ex, mx⟩ := H.at h1
  obtain ⟨y, ey, my⟩ := H.at h2
  unfold mergeF
  rw [ex, ey]
  simp only [Option.getD_some]
  split
  · exact H
  · refine ⟨by rw [List.map_map]; exact H.k, fun q hq => ?_⟩
    obtain ⟨z, hz, rfl⟩ := List.mem_map.mp hq
    show (if z.2 = hiS x y then loS x y else z.2) ∈ names
    split
    · rcases lo_mem x y with e | e <;> rw [e] <;> assumption
    · exact H.v z hz
theorem heads_go {names : List Str} : ∀ (pairs : List (Str × Str)) (h : List (Str × Str)), HdOk names h → (∀ p ∈ pairs, p.1 ∈ names ∧ p.2 ∈ names) → HdOk names (pairs.foldl mergeF h)
  | [], h, H, _ => H
  | p :: pairs, h, H, hp => heads_go pairs (mergeF h p) (merge_ok H (hp p (by simp)).1 (hp p (by simp)).2) fun q hq => hp q (by simp [hq])
theorem heads_id {names : List Str} : HdOk names (names.map fun n => (n, n)) := ⟨by rw [List.map_map]; exact (List.map_congr_left fun _ _ => rfl).trans (List.map_id _), fun p hp => by obtain ⟨n, hn, rfl⟩ := List.mem_map.mp hp; exact hn⟩
def pairsF (s : Sv) : List (Str × Str) := s.book.map fun p => (p.2.one, p.2.two)
def svHeads (s : Sv) : List (Str × Str) := headsF (srt (s.marks.map (·.1))) (pairsF s)
theorem sv_heads {s : Sv} (h : SvOk s) : HdOk (srt (s.marks.map (·.1))) (svHeads s) := heads_go _ _ heads_id fun p hp => by
  obtain ⟨q, hq, rfl⟩ := List.mem_map.mp hp
  exact ⟨srt_mem.mpr (h.rd q hq).o, srt_mem.mpr (h.rd q hq).t⟩
def svGround (s : Sv) : List (Key × VV) := foldW ((s.marks.filter fun p => p.2.isSome).map fun p => ((Sum.inr ((getS (svHeads s) p.1).getD p.1) : Key), VV.bl true)) []
abbrev svFs (x y z w : Addr) : List (Str × VV) := [("points", .ref x), ("book", .ref y), ("heads", .ref z), ("ground", .ref w)]
def SvAt (C : Addr) (M : Mp) (a : Addr) (s : Sv) : Prop := ∃ x y z w, M a = some (.ins C (svFs x y z w)) ∧ M x = some (.dK (dS vat s.marks)) ∧ M y = some (.dK (dI vrd s.book)) ∧ M z = some (.dK (dS VV.str (svHeads s))) ∧ M w = some (.dK (svGround s))
theorem SvAt.le {C : Addr} {M M' : Mp} {a : Addr} {s : Sv} (h : SvAt C M a s) (l : LeM M M') : SvAt C M' a s := by
  obtain ⟨x, y, z, w, h0, h1, h2, h3, h4⟩ := h
  exact ⟨x, y, z, w, l _ _ h0, l _ _ h1, l _ _ h2, l _ _ h3, l _ _ h4⟩
/-! promises -/
def spNeedName : Sp3 := fun ws M Q => ∃ n : Str, ws = [.str n] ∧ Nme n ∧ Q .non M
def spNeedNum : Sp3 := fun ws M Q => ∃ i lo hi : Int, ws = [.int i, .int lo, .int hi] ∧ lo ≤ i ∧ i ≤ hi ∧ Q .non M
def spNeedAt : Sp3 := fun ws M Q => ∃ a : Option Pt, ws = [vat a] ∧ AtOk a ∧ Q .non M
def spNeedSizes : Sp3 := fun ws M Q => ∃ a u w : Int, ws = [.int a, .int u, .int w] ∧ In999 a ∧ In999 u ∧ 1 ≤ w ∧ w ≤ 9 ∧ Q .non M
def spNeedReading : Sp3 := fun ws M Q => ∃ (m : Addr) (n : Int) (r : Rdg) (marks : List (Str × Option Pt)), ws = [.ref m, .int n, vrd r] ∧ M m = some (.dK (dS vat marks)) ∧ RdOk (marks.map (·.1)) r ∧ Q .non M
abbrev vpr (p : Str × Str) : VV := .tup [.str p.1, .str p.2]
def spTied : Sp3 := fun ws M Q => ∃ (w1 w2 : VV) (names : List Str) (pairs : List (Str × Str)), ws = [w1, w2] ∧ Lst M w1 (names.map .str) ∧ Lst M w2 (pairs.map vpr) ∧ names.Nodup ∧ names.length ≤ 20 ∧ pairs.length ≤ 24 ∧ (∀ n ∈ names, Nme n) ∧ (∀ p ∈ pairs, p.1 ∈ names ∧ p.2 ∈ names) ∧
  ∀ p M2, M p = none → LeM M M2 → M2 p = some (.dK (dS VV.str (headsF names pairs))) → Q (.ref p) M2
def spSvInit (C : Addr) : SpX := fun ws M Q _ => ∃ (a p1 p2 : Addr) (s : Sv), ws = [.ref a, .ref p1, .ref p2] ∧ M a = some (.ins C []) ∧ M p1 = some (.dK (dS vat s.marks)) ∧ M p2 = some (.dK (dI vrd s.book)) ∧ SvOk s ∧
  ∀ M', (∀ b o, M b = some o → b ≠ a → M' b = some o) → SvAt C M' a s → Q .non M'
def spSvReadings (C : Addr) : SpX := fun ws M Q _ => ∃ (a : Addr) (s : Sv), ws = [.ref a] ∧ SvAt C M a s ∧ ∀ p M2, M p = none → LeM M M2 → M2 p = some (.dK (dI vrd s.book)) → Q (.ref p) M2
theorem nme_letters {n : Str} (h : Nme n) {i : Nat} {c : Nat} (e : n.cps[i]? = some c) : 97 ≤ c ∧ c ≤ 122 := by
  unfold Nme nmB at h
  simp only [Bool.and_eq_true, decide_eq_true_eq, List.all_eq_true] at h
  have := h.2 c (by
    rw [Array.getElem?_eq_some_iff] at e
    obtain ⟨h1, h2⟩ := e
    rw [← h2]
    exact Array.getElem_mem_toList ..)
  exact this
theorem inLetters {c : Nat} (h1 : 97 ≤ c) (h2 : c ≤ 122) : inS2 ⟨#[c]⟩ (Str.ofString "abcdefghijklmnopqrstuvwxyz") = true := by
  have all : ∀ k : Fin 26, inS2 ⟨#[97 + k.val]⟩ (Str.ofString "abcdefghijklmnopqrstuvwxyz") = true := by decide +kernel
  have := all ⟨c - 97, by omega⟩
  rw [show 97 + (c - 97) = c by omega] at this
  exact this
theorem nme_len {n : Str} (h : Nme n) : 1 ≤ n.length ∧ n.length ≤ 6 := by
  unfold Nme nmB at h
  simp only [Bool.and_eq_true, decide_eq_true_eq] at h
  exact h.1
end G3

set_option Elab.async false
set_option linter.all false
set_option maxRecDepth 100000
set_option maxHeartbeats 4000000
/-! rests and costs of placings in plain Lean; promises -/
namespace G3
open PySem PySem.Spec L2 PySem.W
abbrev Plc := List (Str × Spt)
def restV (r : Rdg) (a b : Spt) : Spt := (rdif (rdif b.1 a.1) (r.ac, 1), rdif (rdif b.2 a.2) (r.up, 1))
def hit (pl : Plc) (q : Int × Rdg) : Option (Int × Rdg × Spt) :=
  match getS pl q.2.one, getS pl q.2.two with
  | some a, some b => some (q.1, q.2, restV q.2 a b)
  | _, _ => none
def hitsF (book : List (Int × Rdg)) (pl : Plc) : List (Int × Rdg × Spt) := book.filterMap (hit pl)
def restsF (book : List (Int × Rdg)) (pl : Plc) : List (Int × Spt) := (hitsF book pl).map fun h => (h.1, h.2.2)
def termF (h : Int × Rdg × Spt) : Rt := rprod (h.2.1.we, 1) (rsum (rprod h.2.2.1 h.2.2.1) (rprod h.2.2.2 h.2.2.2))
def costF (book : List (Int × Rdg)) (pl : Plc) : Rt := totF ((hitsF book pl).map termF)
theorem hits_take {book : List (Int × Rdg)} {pl : Plc} {i : Nat} {q : Int × Rdg} (h : book[i]? = some q) : hitsF (book.take (i + 1)) pl = hitsF (book.take i) pl ++ (hit pl q).toList := by
  unfold hitsF
  rw [List.take_add_one, h, List.filterMap_append]
  congr 1
theorem hits_mem {book : List (Int × Rdg)} {pl : Plc} {h : Int × Rdg × Spt} (hh : h ∈ hitsF book pl) : (h.1, h.2.1) ∈ book ∧ ∃ a b, getS pl h.2.1.one = some a ∧ getS pl h.2.1.two = some b ∧ h.2.2 = restV h.2.1 a b := by
  obtain ⟨q, hq, e⟩ := List.mem_filterMap.mp hh
  unfold hit at e
  split at e
  · rename_i a b ea eb
    cases e
    exact ⟨hq, a, b, ea, eb, rfl⟩
  · cases e
theorem hits_len (book : List (Int × Rdg)) (pl : Plc) : (hitsF book pl).length ≤ book.length := List.length_filterMap_le _ _
theorem hits_keys {book : List (Int × Rdg)} {pl : Plc} : ((hitsF book pl).map (·.1)).Sublist (book.map (·.1)) := by
  unfold hitsF
  induction book with
  | nil => exact List.Sublist.refl _
  | cons q book ih =>
    rw [List.filterMap_cons]
    cases e : hit pl q with
    | none => exact ih.cons _
    | some y =>
      have : y.1 = q.1 := by
        unfold hit at e
        split at e
        · cases e; rfl
        · cases e
      show List.Sublist (y.1 :: _) (q.1 :: _)
      rw [this]
      exact ih.cons₂ _
theorem rest_keys {book : List (Int × Rdg)} {pl : Plc} : ((restsF book pl).map (·.1)).Sublist (book.map (·.1)) := by
  unfold restsF
  rw [List.map_map]
  exact hits_keys
/-- all spots of a placing are within n bits -/
def PlB (n : Nat) (pl : Plc) : Prop := ∀ p ∈ pl, SB n p.2
theorem PlB.at {n : Nat} {pl : Plc} (h : PlB n pl) {m : Str} {s : Spt} (e : getS pl m = some s) : SB n s := h (m, s) (getS_mem e)
theorem In999.bits {i : Int} (h : In999 i) : RB 10 ((i, 1) : Rt) := .wh (by unfold In999 at h; omega) (by decide)
theorem rest_bits {n : Nat} {r : Rdg} {a b : Spt} (ha : SB n a) (hb : SB n b) (h1 : In999 r.ac) (h2 : In999 r.up) : SB (n + n + 1 + 10 + 1) (restV r a b) := ⟨(hb.x.dif ha.x).dif h1.bits, (hb.y.dif ha.y).dif h2.bits⟩
theorem term_bits {n : Nat} {h : Int × Rdg × Spt} (hs : SB n h.2.2) (hw : 1 ≤ h.2.1.we ∧ h.2.1.we ≤ 9) : RB (4 + (n + n + (n + n) + 1)) (termF h) := by
  have w : RB 4 ((h.2.1.we, 1) : Rt) := .wh (by omega) (by decide)
  exact w.prod ((hs.x.prod hs.x).sum (hs.y.prod hs.y))
theorem tot_bits {m : Nat} {xs : List Rt} (h : ∀ x ∈ xs, RB m x) : ∀ (n : Nat) (p : Rt), RB n p → RB (n + (m + 1) * xs.length) (xs.foldl rsum p) := by
  induction xs with
  | nil => intro n p hp; exact hp
  | cons x xs ih =>
    intro n p hp
    have := ih (fun y hy => h y (by simp [hy])) _ _ (hp.sum (h x (by simp)))
    refine this.mono ?_
    rw [List.length_cons, Nat.mul_add]
    omega
theorem SvAt.ins {C : Addr} {M : Mp} {a : Addr} {s : Sv} (h : SvAt C M a s) : ∃ x y z w, M a = some (.ins C (svFs x y z w)) := by
  obtain ⟨x, y, z, w, h, _⟩ := h
  exact ⟨x, y, z, w, h⟩
theorem put_rest {book : List (Int × Rdg)} {pl : Plc} {i : Nat} {q : Int × Rdg} {v : Spt} (hd : (book.map (·.1)).Nodup) (hq : book[i]? = some q) (e : hit pl q = some (q.1, q.2, v)) : putW (dI vsp (restsF (book.take i) pl)) (.inl q.1) (vsp v) = dI vsp (restsF (book.take (i + 1)) pl) := by
  have hn : q.1 ∉ (restsF (book.take i) pl).map (·.1) := fun h => by
    have h2 := rest_keys.subset h
    have h3 : (book.take (i + 1)).map (·.1) = (book.take i).map (·.1) ++ [q.1] := by rw [List.take_add_one, hq, List.map_append]; rfl
    have h4 : ((book.take (i + 1)).map (·.1)).Nodup := hd.sublist ((List.take_sublist _ _).map _)
    rw [h3, List.nodup_append] at h4
    exact h4.2.2 _ h2 q.1 (by simp) rfl
  unfold putW
  rw [if_neg]
  · unfold restsF
    rw [hits_take hq, e, List.map_append]
    show _ = List.map _ (_ ++ _)
    rw [List.map_append]
    rfl
  · intro h
    obtain ⟨z, hz, ez⟩ := List.any_eq_true.mp h
    obtain ⟨y, hy, rfl⟩ := List.mem_map.mp hz
    refine hn (List.mem_map.mpr ⟨y, hy, ?_⟩)
    have := of_decide_eq_true ez
    exact Sum.inl.inj this
theorem hit_some {pl : Plc} {q : Int × Rdg} {a b : Spt} (ea : getS pl q.2.one = some a) (eb : getS pl q.2.two = some b) : hit pl q = some (q.1, q.2, restV q.2 a b) := by
  unfold hit
  rw [ea, eb]
theorem hit_no1 {pl : Plc} {q : Int × Rdg} (ea : getS pl q.2.one = none) : hit pl q = none := by
  unfold hit
  rw [ea]
theorem hit_no2 {pl : Plc} {q : Int × Rdg} (ea : getS pl q.2.two = none) : hit pl q = none := by
  unfold hit
  rw [ea]
  split <;> first | rfl | (rename_i h; cases h)
theorem rests_no {book : List (Int × Rdg)} {pl : Plc} {i : Nat} {q : Int × Rdg} (hq : book[i]? = some q) (e : hit pl q = none) : restsF (book.take (i + 1)) pl = restsF (book.take i) pl := by
  unfold restsF
  rw [hits_take hq, e]
  show List.map _ (_ ++ []) = _
  rw [List.append_nil]
/-! promises -/
def spTotal2 : Sp3 := fun ws M Q => ∃ (w : VV) (xs : List Rt) (m : Nat), ws = [w] ∧ Lst M w (xs.map vr) ∧ (∀ x ∈ xs, RB m x) ∧ m ≤ BIG ∧ 1 + (m + 1) * xs.length ≤ BIG ∧ Q (vr (totF xs)) M
def spRestOf : Sp3 := fun ws M Q => ∃ (p : Addr) (pl : Plc) (r : Rdg) (a b : Spt), ws = [vrd r, .ref p] ∧ M p = some (.dK (dS vsp pl)) ∧ getS pl r.one = some a ∧ getS pl r.two = some b ∧ SB 400 a ∧ SB 400 b ∧ In999 r.ac ∧ In999 r.up ∧ Q (vsp (restV r a b)) M
def spRests (C : Addr) : Sp3 := fun ws M Q => ∃ (a p : Addr) (s : Sv) (pl : Plc), ws = [.ref a, .ref p] ∧ SvAt C M a s ∧ SvOk s ∧ M p = some (.dK (dS vsp pl)) ∧ PlB 400 pl ∧ ∀ d M2, M d = none → LeM M M2 → M2 d = some (.dK (dI vsp (restsF s.book pl))) → Q (.ref d) M2
def spCost (C : Addr) : Sp3 := fun ws M Q => ∃ (a p : Addr) (s : Sv) (pl : Plc), ws = [.ref a, .ref p] ∧ SvAt C M a s ∧ SvOk s ∧ s.book.length ≤ 18 ∧ M p = some (.dK (dS vsp pl)) ∧ PlB 17 pl ∧ ∀ M2, LeM M M2 → Q (vr (costF s.book pl)) M2
theorem o2_catN {X : Cx} {M : Mp} {Q : VQ} {p r : Addr} {us ws : List VV} (h1 : M p = some (.lst us)) (h2 : M r = some (.lst ws)) (hz : us.length + ws.length ≤ sizeLine) (q : ∀ l M2, M l = none → LeM M M2 → M2 l = some (.lst (us ++ ws)) → Q (.ref l) M2) : O2 X (binaryOp .Add) (.ref p) (.ref r) M Q :=
  o2_cat h1 h2 hz fun l n => q l _ n (LeM.new n) updM_same
theorem DE2.dI {β : Type} {f : β → VV} {M : Mp} {n : Nat} {a b : Addr} {l : List (Int × β)} (ha : M a = some (.dK (dI f l))) (hb : M b = some (.dK (dI f l))) (hab : a ≠ b) (hd : (l.map (·.1)).Nodup) (hl : l.length < 64) (h : ∀ p ∈ l, DE2 (dropM M b) n (f p.2) (f p.2)) : DE2 M (n + 1) (.ref a) (.ref b) := by
  have look : ∀ k y, (k, y) ∈ G3.dI f l → ∃ i z, k = .inl i ∧ y = f z ∧ (i, z) ∈ l ∧ lookW (G3.dI f l) k = some (f z) := fun k y h => by
    obtain ⟨p, hp, e⟩ := List.mem_map.mp h
    cases e
    refine ⟨_, _, rfl, rfl, hp, ?_⟩
    rw [dI_look, getI_of hd hp]
    rfl
  refine .dic ha hb hab (by rw [dI_keys]; exact .int (List.Perm.refl _) (by rw [List.length_map]; exact hl)) (fun k y hm => ?_) (fun k y x hm e => ?_)
  · obtain ⟨i, z, rfl, rfl, hz, e⟩ := look k y hm
    exact ⟨⟨_, e⟩, e⟩
  · obtain ⟨i, z, rfl, rfl, hz, e2⟩ := look k y hm
    rw [e2] at e
    cases e
    exact h _ hz
theorem totF_add (xs : List Rt) (x : Rt) : totF (xs ++ [x]) = rsum (totF xs) x := by unfold totF; rw [List.foldl_append]; rfl
/-- two dicts of texts with the same things -/
theorem o2_eqSelfS {X : Cx} {M : Mp} {Q : VQ} {β : Type} [DecidableEq β] [PySem.W.Datum β] {a b : Addr} {f : β → VV} {l : List (Str × β)} (hu : X.A.units + 1 + Datum.depth β < cLine) (ha : M a = some (.dK (dS f l))) (hb : M b = some (.dK (dS f l))) (hd : ∀ v, DW M (f v) (Datum.toD v)) (hn : (l.map (·.1)).Nodup) (q : Q (.bl true) M) : O2 X (compareOp .Eq) (.ref a) (.ref b) M Q := by
  rw [dS_dG] at ha hb
  refine o2_eqDic hu ha hb hd ?_
  rw [eqDF_self]
  · exact q
  · rw [List.map_map]
    have : (l.map ((·.1) ∘ fun p : Str × β => ((Sum.inr p.1 : Key), p.2))) = (l.map (·.1)).map Sum.inr := by rw [List.map_map]; rfl
    rw [this]
    exact List.Pairwise.map _ (fun a b hab z => hab (Sum.inr.inj z)) hn
def spSpotK : Sp3 := fun ws M Q => ∃ (b : Addr) (reach : Int), ws = [.ref b, .int reach] ∧ M b = some .bag ∧ 0 ≤ reach ∧ reach ≤ 1000 ∧ ∀ s : Spt, SB 17 s → Q (vsp s) M
def GAt (n : Str) (a : Option Pt) : Prop := Nme n ∧ AtOk a
theorem DrG.put2 {β : Type} {G : Str → β → Prop} {k : Nat} {sp : List (Str × β)} (h : DrG G k sp) {n : Str} {s : β} (hs : G n s) (hn : n ∈ sp.map (·.1)) : DrG G k (putS sp n s) := by
  refine ⟨putS_nodup h.d, (h.put hs).b, ?_⟩
  have e := congrArg List.length (putS_keys sp n s)
  rw [if_pos hn, List.length_map, List.length_map] at e
  rw [e]
  exact h.l
theorem putS_ne {β : Type} {l : List (Str × β)} {n : Str} {b : β} : putS l n b ≠ [] := fun z => by
  have := putS_in l n b
  rw [z] at this
  cases this
def spMarks : Sp3 := fun ws M Q => ∃ (b : Addr) (many : Int), ws = [.ref b, .int many] ∧ M b = some .bag ∧ 0 < many ∧ many ≤ 20 ∧ ∀ p (l : List (Str × Option Pt)) M2, M p = none → LeM M M2 → M2 p = some (.dK (dS vat l)) → DrG GAt many.toNat l → l ≠ [] → Q (.ref p) M2
structure BkOk (names : List Str) (many : Nat) (bk : List (Int × Rdg)) : Prop where
  rise : (bk.map (·.1)).Pairwise (· < ·)
  rd : ∀ p ∈ bk, RdOk names p.2
  l : bk.length ≤ many
theorem BkOk.le {names : List Str} {m : Nat} {bk : List (Int × Rdg)} (h : BkOk names m bk) : (bk.map (·.1)).Pairwise (· ≤ ·) := h.rise.imp fun h => Int.le_of_lt h
theorem BkOk.db {names : List Str} {m : Nat} {bk : List (Int × Rdg)} (h : BkOk names m bk) : (bk.map (·.1)).Nodup := h.rise.imp fun h => Int.ne_of_lt h
theorem BkOk.sv {marks : List (Str × Option Pt)} {n m : Nat} {bk : List (Int × Rdg)} (g : DrG GAt n marks) (hn : n ≤ 20) (h : BkOk (marks.map (·.1)) m bk) (hm : m ≤ 24) : SvOk ⟨marks, bk⟩ :=
  ⟨g.d, fun p hp => (g.b p hp).1, fun p hp => (g.b p hp).2, Nat.le_trans g.l hn, h.rise, h.rd, Nat.le_trans h.l hm⟩
theorem RdOk.of {ns ms : List Str} {r : Rdg} (h : RdOk ns r) (k : ∀ n ∈ ns, n ∈ ms) : RdOk ms r := ⟨k _ h.o, k _ h.t, h.ne, h.ac, h.up, h.we⟩
theorem BkOk.srt {ns : List Str} {m : Nat} {bk : List (Int × Rdg)} (h : BkOk (srt ns) m bk) : BkOk ns m bk := ⟨h.rise, fun p hp => (h.rd p hp).of fun n hn => srt_mem.mp hn, h.l⟩
/-- a new number behind all others -/
theorem BkOk.add {names : List Str} {m : Nat} {bk : List (Int × Rdg)} (h : BkOk names m bk) {n : Int} {r : Rdg} (hn : ∀ p ∈ bk, p.1 < n) (hr : RdOk names r) : BkOk names (m + 1) (bk ++ [(n, r)]) := by
  refine ⟨?_, fun p hp => ?_, ?_⟩
  · rw [List.map_append, List.pairwise_append]
    refine ⟨h.rise, by simp, fun a ha b hb => ?_⟩
    obtain ⟨q, hq, rfl⟩ := List.mem_map.mp ha
    simp at hb
    subst hb
    exact hn q hq
  · rcases List.mem_append.mp hp with hp | hp
    · exact h.rd p hp
    · simp at hp; subst hp; exact hr
  · rw [List.length_append]
    have := h.l
    simp
    omega
theorem put_last {β : Type} (f : β → VV) {bk : List (Int × β)} {n : Int} {r : β} (hn : ∀ p ∈ bk, p.1 < n) : putW (dI f bk) (.inl n) (f r) = dI f (bk ++ [(n, r)]) := by
  unfold putW
  rw [if_neg]
  · show _ = List.map _ (_ ++ _)
    rw [List.map_append]
    rfl
  · intro h
    obtain ⟨z, hz, ez⟩ := List.any_eq_true.mp h
    obtain ⟨y, hy, rfl⟩ := List.mem_map.mp hz
    have := Sum.inl.inj (of_decide_eq_true ez)
    have := hn y hy
    omega
def spReadings : Sp3 := fun ws M Q => ∃ (b : Addr) (w : VV) (names : List Str) (many : Int), ws = [.ref b, w, .int many] ∧ M b = some .bag ∧ Lst M w (names.map .str) ∧ names ≠ [] ∧ names.length ≤ 1000 ∧ 0 ≤ many ∧ many ≤ 24 ∧ ∀ p bk M2, M p = none → LeM M M2 → M2 p = some (.dK (dI vrd bk)) → BkOk names many.toNat bk → Q (.ref p) M2
end G3

set_option Elab.async false
set_option linter.all false
set_option maxRecDepth 100000
set_option maxHeartbeats 4000000
/-! sets of texts: set(row), sorted(set) -/
namespace G3
open PySem PySem.Spec L2 PyProof.Rows PySem.Froz
/-- the set at a holds the texts l; its table rises and can be walked -/
def SetT (P : Program) (w : World) (h : Heap) (a : Addr) (l : List Str) : Prop :=
  ∃ D : SD, h.get? a = some (sObj "set" D) ∧ TxOk P w D l ∧ l.Nodup ∧ Ris D.2.2.place.toList ∧ (w.params.followText "set-order" = true ∨ D.2.2.led = true)
section
variable {P : Program} {w : World} {A : Around} {E : Value → Shared → Prop} {s : Shared}
theorem SetT.at {h h' : Heap} {a : Addr} {l : List Str} (R : SetT P w h a l) (k : ∀ o, h.get? a = some o → h'.get? a = some o) : SetT P w h' a l := by
  obtain ⟨D, ho, r⟩ := R
  exact ⟨D, k _ ho, r⟩
theorem tailTx_ok {ep : Nat} {es1 : Array (Int × Value)} {t2 : SetTable} {wd : Bool} (r : Ris t2.place.toList) : Ris (tailTx ep es1 t2 wd).2.2.place.toList ∧ (tailTx ep es1 t2 wd).2.2.led = t2.led := by
  unfold tailTx
  by_cases c : (!wd && t2.tooFull) = true
  · rw [if_pos c]
    exact ⟨relayAll_ris _ _ _, relayAll_led _ _ _⟩
  · rw [if_neg c]
    exact ⟨r, rfl⟩
theorem addTx_ok {D : SD} {hs : Int} {v : Value} (r : Ris D.2.2.place.toList) : Ris (addTx hs v D).2.2.place.toList ∧ (addTx hs v D).2.2.led = D.2.2.led := by
  have h1 := layNew_ris D.2.2 D.1 hs v r
  have h2 := layNew_led D.2.2 D.1 hs v
  unfold addTx
  by_cases c : (layNew D.2.2 D.1 hs v).2.1.plain = true
  · rw [if_pos c]
    obtain ⟨z1, z2⟩ := tailTx_ok (ep := D.2.1) (es1 := (layNew D.2.2 D.1 hs v).1) (t2 := { (layNew D.2.2 D.1 hs v).2.1 with plain := false }) (wd := (layNew D.2.2 D.1 hs v).2.2.1) h1
    exact ⟨z1, z2.trans h2⟩
  · rw [if_neg c]
    obtain ⟨z1, z2⟩ := tailTx_ok (ep := D.2.1) (es1 := (layNew D.2.2 D.1 hs v).1) (t2 := (layNew D.2.2 D.1 hs v).2.1) (wd := (layNew D.2.2 D.1 hs v).2.2.1) h1
    exact ⟨z1, z2.trans h2⟩
/-- a text that is there already -/
theorem add_old {a : Addr} {D : SD} {l : List Str} {k : Str} {u : Tok} {Q : Bool → Shared → Prop} (ho : s.heap.get? a = some (sObj "set" D)) (F : TxOk P w D l) (hk : k ∈ l) (hb : l.length < scanBound)
    (h : Q false s) : wpAny (model P w) A (setAddHashed a (.str k u) (hashStr w k)) Q E s := by
  obtain ⟨es, ep, t⟩ := D
  have hd : (sObj "set" (es, ep, t)).data = .set es ep t := rfl
  have hf : t.fits es.size = true := F.fit
  have hel : ElemsOf (strKind P w) es.toList := F.el
  have hsz : es.size = l.length := F.sz
  have hkey : (strKind P w).is k (.str k u) = true := is_str k u
  unfold setAddHashed setAddHashedIn
  refine wpAny_holding (wpAny_bind (wpAny_setState_of ho hd hf ?_))
  dsimp only
  rw [byScan_of rfl (by rw [hsz]; exact hb) hel]
  simp only [↓reduceIte]
  unfold setAddByScan
  refine wpAny_bind ?_
  refine wpAny_bind (wpAny_rule ?_)
  refine wpAny_bind (wpAny_setScan_of (knd := strKind P w) (k := k) hkey ho hd hf hel ?_)
  cases hr : List.findIdx? (fun e => (strKind P w).is k e.2) es.toList with
  | none =>
    obtain ⟨e, he, z⟩ := (F.mem k).mp hk
    have c := List.findIdx?_eq_none_iff.mp hr e he
    rw [z] at c
    cases c
  | some j =>
    dsimp only
    exact wpAny_pure (wpAny_pure h)
theorem setT_add {a : Addr} {l : List Str} {k : Str} {u : Tok} {Q : Bool → Shared → Prop} (R : SetT P w s.heap a l) (hb : l.length + 1 < scanBound)
    (h : ∀ h' b, Heap.SameBut a s.heap h' → SetT P w h' a (if k ∈ l then l else k :: l) → Q b { s with heap := h' }) : wpAny (model P w) A (setAddHashed a (.str k u) (hashStr w k)) Q E s := by
  obtain ⟨D, ho, F, hn, hr, hl⟩ := id R
  by_cases hk : k ∈ l
  · refine add_old ho F hk (by omega) ?_
    have := h s.heap false (Heap.SameBut.refl a s.heap)
    rw [if_pos hk] at this
    exact this R
  · refine add_x ho F hk hb ?_
    refine h _ true (Heap.SameBut.update s.heap a _) ?_
    rw [if_neg hk]
    exact ⟨_, get_upd _ ho rfl, add_ok u F, List.nodup_cons.mpr ⟨hk, hn⟩, (addTx_ok hr).1, by rw [(addTx_ok hr).2]; exact hl⟩
/-- the walk of set(row) -/
theorem set_update_tx {I : Addr} {fp wr : List Addr} {G : Array GenState → Array GenState → Prop} {n : Nat} {Pv : Nat → Value → Prop} {St : Nat → Shared → Prop} {R : Result → Shared → Prop}
    (W : WalksS P w A.in1 I fp wr G n Pv St) (S : Addr) (hSf : S ∉ fp) (xs : List Str) (hn : n = xs.length) (hb : xs.length + 1 < scanBound) (hval : ∀ i v, Pv i v → ∃ k t, xs[i]? = some k ∧ v = .str k t) :
    ∀ (k i : Nat) (s : Shared), n - i = k → i ≤ n → St i s → (∃ l : List Str, l.length ≤ i ∧ (∀ x, x ∈ l ↔ x ∈ xs.take i) ∧ SetT P w s.heap S l) →
      (∀ s' l, Moved (S :: wr) G s s' → (∀ x, x ∈ l ↔ x ∈ xs) → SetT P w s'.heap S l → R (.ok (.ret .none)) s') →
      codeAny (model P w) A (.builtin "set.update.loop" ⟨[.ref S, .ref I], []⟩) R s := by
  have hSw : S ∉ wr := fun h => hSf (W.sub _ h)
  have hsub : ∀ b ∈ wr, b ∈ S :: wr := fun b hb => List.mem_cons_of_mem _ hb
  intro k
  induction k with
  | zero =>
    intro i s hk' hi hst ⟨l, hc, hm', hS⟩ hR
    have hin : i = n := by omega
    subst hin
    refine codeAny_builtin F.entry_set_update_loop ?_
    rw [Around.under_plainId F.plain_set_update_loop _]
    show wpAny _ A.in1 (pyNext (.ref I) >>= _) _ _ s
    refine wpAny_bind (W.done s _ _ hst fun s' hm => ?_)
    show wpAny _ A.in1 (ret Value.none) _ _ s'
    have e : xs.take i = xs := List.take_of_length_le (by omega)
    rw [e] at hm'
    exact wpAny_pure (hR s' l (hm.mono hsub) hm' (hS.at fun o e => hm.heap S o hSw e))
  | succ k ih =>
    intro i s hk' hi hst ⟨l, hc, hm', hS⟩ hR
    have hlt : i < n := by omega
    refine codeAny_builtin F.entry_set_update_loop ?_
    rw [Around.under_plainId F.plain_set_update_loop _]
    show wpAny _ A.in1 (pyNext (.ref I) >>= _) _ _ s
    refine wpAny_bind (W.item i s _ _ hlt hst fun v s' hP hst' hm => ?_)
    obtain ⟨z, t, hz, rfl⟩ := hval i v hP
    have hS' : SetT P w s'.heap S l := hS.at fun o e => hm.heap S o hSw e
    show wpAny _ A.in1 (holding [Value.str z t] (setAdd S (.str z t)) >>= _) _ _ s'
    refine wpAny_bind (wpAny_holding ?_)
    unfold setAdd
    refine wpAny_holding ?_
    refine wpAny_bind ((strKind P w).pyHash (k := z) (is_str z t) ?_)
    refine setT_add (s := { s' with toks := s'.toks + 1 }) hS' (by omega) fun h' b hsb hS2 => ?_
    refine wpAny_pure ⟨plainId_quiet F.plain_set_update_loop _, ih (i + 1) _ (by omega) hlt (W.frame _ s' _ _ hst' (Nat.le_succ _) fun b hb o e => ?_) ⟨_, ?_, fun x => ?_, hS2⟩ fun s'' l2 hm'' hc'' hS'' => ?_⟩
    · rw [hsb.2 b (fun h : b = S => hSf (by rw [← h]; exact hb))]; exact e
    · split
      · omega
      · rw [List.length_cons]; omega
    · rw [List.take_add_one, hz]
      show _ ↔ x ∈ xs.take i ++ [z]
      rw [List.mem_append, List.mem_singleton, ← hm' x]
      by_cases hzl : z ∈ l
      · rw [if_pos hzl]
        exact ⟨.inl, fun h => h.elim id fun e => e ▸ hzl⟩
      · rw [if_neg hzl, List.mem_cons]
        exact Or.comm
    · refine hR s'' l2 (Moved.trans W.gtrans ((hm.mono hsub).then_heap (Nat.le_succ _) fun b o hb e => ?_) hm'') hc'' hS''
      rw [hsb.2 b (fun h : b = S => hb (by rw [h]; exact List.mem_cons_self))]; exact e

theorem setT_new {h : Heap} {a : Addr} (ho : h.get? a = some { cls := .type "set", dict := none, data := .set #[] 0 (.fresh 0 0 (!w.params.followText "set-order")) }) : SetT P w h a [] :=
  ⟨(#[], 0, .fresh 0 0 (!w.params.followText "set-order")), ho, .nil (by rfl), List.nodup_nil, List.Pairwise.nil, by
    show _ ∨ (!w.params.followText "set-order") = true
    cases w.params.followText "set-order"
    · exact .inr rfl
    · exact .inl rfl⟩
theorem tx_at : ∀ {us : List Value} {xs : List Str}, StrsAre us xs → ∀ (i : Nat) (v : Value), us[i]? = some v → ∃ k t, xs[i]? = some k ∧ v = .str k t
  | _, _, .nil, i, v, h => by simp at h
  | _, _, .cons n t hr, 0, v, h => by simp at h; exact ⟨n, t, rfl, h.symm⟩
  | _, _, .cons n t hr, i + 1, v, h => by
    simp only [List.getElem?_cons_succ] at h ⊢
    exact tx_at hr i v h
/-- set(row) of a list of texts -/
theorem call_setT {l : Addr} {items : Array Value} {xs : List Str} {Q : Value → Shared → Prop}
    (hh : A.handled = none) (hl : s.heap.IsList l items) (hi : StrsAre items.toList xs) (hb : xs.length + 1 < scanBound)
    (h : ∀ (h' : Heap) (tk : Nat) (ys : List Str), (∀ x, x ∈ ys ↔ x ∈ xs) → SetT P w h' s.heap.objs.size ys → (∀ b o, s.heap.get? b = some o → h'.get? b = some o) → Q (.ref s.heap.objs.size) { s with heap := h', toks := tk }) :
    wpAny (model P w) A (call (.type "set") [.ref l]) Q E s := by
  obtain ⟨c, tl, hmro⟩ := PySem.F.called_set.mro
  have hmade := PySem.F.called_set.made
  have hsub := PySem.F.called_set.sub
  refine wpAny_call (codeAny_of_tree ?_)
  show wpAny _ _ (callAny (.type "set") _) _ _ _
  refine wpAny_pure ⟨Code.quiet_builtin _ (by decide +kernel), codeAny_builtin PySem.F.entry_type_call ?_⟩
  rw [Around.under_plain (weight_type_call_type "set" [.ref l] []) rfl]
  have h1 := PySem.F.called_set.notType
  have h2 := PySem.F.called_set.canCreate
  have hct := PySem.F.typeCall_set_1 (.ref l)
  repeat (any_goals (first | assumption | wp_step))
  refine codeAny_mono (code_set_led1 (.ref l) (E := E) (Q₁ := fun obj s₁ => obj = .ref s.heap.objs.size ∧ s₁ = { s with heap := s.heap.push { cls := .type "set", dict := none, data := .set #[] 0 (.fresh 0 0 (!w.params.followText "set-order")) } }) ⟨rfl, rfl⟩) fun r s₁ hr => ?_
  cases r with
  | error e => exact hr
  | ok fl =>
    cases fl with
    | ret obj =>
      obtain ⟨rfl, rfl⟩ := hr
      have hS : (s.heap.push { cls := .type "set", dict := none, data := .set #[] 0 (.fresh 0 0 (!w.params.followText "set-order")) }).get? s.heap.objs.size = some { cls := .type "set", dict := none, data := .set #[] 0 (.fresh 0 0 (!w.params.followText "set-order")) } := Heap.get?_push_size _ rfl
      have hT : Shared.TypeIs { s with heap := s.heap.push { cls := .type "set", dict := none, data := .set #[] 0 (.fresh 0 0 (!w.params.followText "set-order")) } } (.ref s.heap.objs.size) "set" := ⟨_, hS, rfl⟩
      have hli := PySem.F.called_set.init.lookup
      have hbi := PySem.F.called_set.init.bind (.ref s.heap.objs.size)
      repeat (any_goals (first | assumption | wp_step))
      refine codeAny_mono (codeAny_call_builtin (R := wants (fun r s₂ => r = .none ∧ ∃ h' tk ys, s₂ = { s with heap := h', toks := tk } ∧
          (∀ x, x ∈ ys ↔ x ∈ xs) ∧ SetT P w h' s.heap.objs.size ys ∧ (∀ b o, s.heap.get? b = some o → h'.get? b = some o)) E) PySem.F.called_set.init.plain PySem.F.entry_set_init (check_set_init_1 hT ?_)) fun r₂ s₂ hr₂ => ?_
      · obtain ⟨ol, hol, hcl, nl, hdl⟩ := hl
        obtain ⟨ocls, odict, odata, oslots⟩ := ol
        simp only at hcl hdl
        subst hcl; subst hdl
        have hol' : (s.heap.push { cls := .type "set", dict := none, data := .set #[] 0 (.fresh 0 0 (!w.params.followText "set-order")) }).get? l = some { cls := .type "list", dict := odict, data := .seq items nl, slots := oslots } := Heap.get?_push_of_some _ hol
        have hsls := PySem.F.sub_list_set
        have hslf := PySem.F.sub_list_frozenset
        have hne : (Value.type "list" == Value.type "dict") = false := by decide
        have hl1 : (s.heap.push { cls := .type "set", dict := none, data := .set #[] 0 (.fresh 0 0 (!w.params.followText "set-order")) }).IsList l items := ⟨_, hol', rfl, nl, rfl⟩
        unfold Builtin.«set.__init__» noKeywords Builtin.Frozenset.updateFrom
        generalize hPI : pyIter = PI
        wp_walk
        subst hPI
        refine wpAny_pyIter_list hl1 ?_
        refine wpAny_bind (wpAny_runValue ?_)
        have hlS : l < s.heap.objs.size := Heap.lt_size hol
        have hh3 : A.in1.in1.in1.handled = none := by simp [hh]
        have hneI : l ≠ (s.heap.push { cls := .type "set", dict := none, data := .set #[] 0 (.fresh 0 0 (!w.params.followText "set-order")) }).objs.size := by
          rw [Heap.size_push]; exact Nat.ne_of_lt (Nat.lt_succ_of_lt hlS)
        have hSf : s.heap.objs.size ∉ [(s.heap.push { cls := .type "set", dict := none, data := .set #[] 0 (.fresh 0 0 (!w.params.followText "set-order")) }).objs.size, l] := by
          rw [Heap.size_push]; simp only [List.mem_cons, List.mem_singleton, List.not_mem_nil, or_false, not_or]
          exact ⟨Nat.ne_of_lt (Nat.lt_succ_self _), Nat.ne_of_gt hlS⟩
        have hsz : xs.length = items.size := by rw [← StrsAre.len_eq hi, Array.length_toList]
        refine set_update_tx ((Walks.list hh3 _ l hneI items).toS) s.heap.objs.size
          hSf xs hsz.symm hb (fun i v hv => tx_at hi i v (by rw [Array.getElem?_toList]; exact hv)) (items.size - 0) 0 _ (by omega) (Nat.zero_le _)
          ⟨⟨_, Heap.get?_push_size _ rfl, rfl, rfl⟩, (hl1.push _)⟩ ⟨[], Nat.le_refl _, fun x => by simp, setT_new (Heap.get?_push_of_some _ hS)⟩ ?hR
        case hR =>
          intro s' ys hm hm2 hS'
          obtain ⟨h', g', d', tk', os'⟩ := s'
          have eg : g' = s.gens := hm.gens
          have ed : d' = s.drawn := hm.drawn
          have eo : os' = s.os := hm.os
          subst eg; subst ed; subst eo
          show wpAny _ _ _ _ _ _
          refine wpAny_pure ?_
          show wpAny _ _ (ret Value.none) _ _ _
          refine wpAny_pure ⟨rfl, h', tk', ys, rfl, hm2, hS', fun b o e => ?_⟩
          have hb := Heap.lt_size e
          have hb1 : b ≠ s.heap.objs.size := Nat.ne_of_lt hb
          have hb2 : b ≠ (s.heap.push { cls := .type "set", dict := none, data := .set #[] 0 (.fresh 0 0 (!w.params.followText "set-order")) }).objs.size := by
            rw [Heap.size_push]; exact Nat.ne_of_lt (Nat.lt_succ_of_lt hb)
          exact hm.heap b o (by simp only [List.mem_cons, List.mem_singleton, List.not_mem_nil, or_false, not_or]; exact ⟨hb1, hb2⟩) (Heap.get?_push_of_some _ (Heap.get?_push_of_some _ e))
      · cases r₂ with
        | error e => exact hr₂
        | ok fl₂ =>
          cases fl₂ with
          | ret r =>
            obtain ⟨rfl, h', tk, ys, rfl, hm, hS', hk'⟩ := hr₂
            repeat (any_goals (first | assumption | wp_step))
            exact h _ _ _ hm hS' hk'
          | _ => exact hr₂.elim
    | _ => exact hr.elim
theorem perm_of_sub {α : Type} [DecidableEq α] : ∀ {l m : List α}, l.Nodup → (∀ x ∈ l, x ∈ m) → m.length ≤ l.length → l.Perm m
  | [], m, _, _, h => by
    have : m = [] := List.length_eq_zero_iff.mp (Nat.le_zero.mp h)
    rw [this]
  | x :: l, m, hn, hs, hl => by
    have hx : x ∈ m := hs x (by simp)
    obtain ⟨hx2, hn2⟩ := List.nodup_cons.mp hn
    have ih := perm_of_sub (l := l) (m := m.erase x) hn2 (fun y hy => (List.mem_erase_of_ne (fun (z : y = x) => hx2 (by rw [← z]; exact hy))).mpr (hs y (by simp [hy]))) (by
      rw [List.length_erase_of_mem hx]
      rw [List.length_cons] at hl
      omega)
    exact (ih.cons x).trans (List.perm_cons_erase hx).symm
def txOf : Value → Str
  | .str k _ => k
  | _ => Str.empty
theorem strs_all : ∀ {vs : List Value}, (∀ v ∈ vs, ∃ k t, v = Value.str k t) → StrsAre vs (vs.map txOf)
  | [], _ => .nil
  | v :: vs, h => by
    obtain ⟨k, t, rfl⟩ := h v (by simp)
    exact .cons k t (strs_all fun u hu => h u (by simp [hu]))
/-- sorted(set) of texts -/
theorem sorted_setT {a : Addr} {l : List Str} {Q : Value → Shared → Prop} (R : SetT P w s.heap a l) (hh : A.handled = none) (h64 : l.length < 64)
    (hQ : ∀ s' p (out : Array Value) (c : Nat) (ys : List Str), (∀ b o, s.heap.get? b = some o → s'.heap.get? b = some o) → s'.gens = s.gens → s'.os = s.os → s.heap.objs.size ≤ p →
      s'.heap.get? p = some (seqObj "list" out c) → StrsAre out.toList ys → ys.Perm l → sortedS ys = true → Q (.ref p) s') :
    wpAny (model P w) A (call (.builtin "sorted") [.ref a]) Q E s := by
  obtain ⟨D, ho, F, hn, hr, hl⟩ := R
  obtain ⟨es, ep, t⟩ := D
  have hsz : es.size = l.length := F.sz
  have hb : es.size < scanBound := by rw [hsz]; exact Nat.lt_trans h64 (by decide)
  refine Calls.call_function_entry kind_sorted plain_sorted entry_sorted (args_sorted1 _) ?_
  unfold Builtin.«sorted»
  refine wpAny_bind (m := checkCount "sorted" 1 1 _) (wpAny_pure ?_)
  refine wpAny_bind (collect_set (A := A.in1) hh ⟨_, ho, rfl, rfl⟩ F.fit hb hr hl fun s1 vs k1 hz g1 o1 pm => ?_)
  have all : ∀ v ∈ vs, ∃ k t, v = Value.str k t := fun v hv => by
    obtain ⟨e, he, q⟩ := List.mem_map.mp (pm.mem_iff.mp hv)
    obtain ⟨⟨k, h1, _⟩, _⟩ := F.el e he
    obtain ⟨u, hu⟩ := Value.isStrOf_shape (x := k) (v := e.2) h1
    exact ⟨k, u, by rw [← q]; exact hu⟩
  have hS := strs_all all
  have hvl : vs.length = l.length := by rw [pm.length_eq, List.length_map, Array.length_toList]; exact hsz
  have pl : l.Perm (vs.map txOf) := by
    refine perm_of_sub hn (fun x hx => ?_) (by rw [List.length_map, hvl]; exact Nat.le_refl _)
    obtain ⟨e, he, q⟩ := (F.mem x).mp hx
    obtain ⟨u, hu⟩ := Value.isStrOf_shape (x := x) (v := e.2) q
    exact List.mem_map.mpr ⟨e.2, pm.mem_iff.mpr (List.mem_map.mpr ⟨e, he, rfl⟩), by rw [hu]; rfl⟩
  refine wpAny_bind (wpAny_newList ?_ (by rw [hvl, sizeLine_eq]; omega))
  have hoL : (s1.heap.push (seqObj "list" vs.toArray 0)).get? s1.heap.objs.size = some (seqObj "list" vs.toArray 0) := Heap.get?_push_size _ rfl
  refine wpAny_bind (wpAny_holding (wpAny_call_entry slot_list_sort ⟨_, hoL, rfl⟩ entry_list_sort
    (list_sort_treeK strKind_oneLt (s := { s1 with heap := s1.heap.push (seqObj "list" vs.toArray 0) }) hoL hS.keysOf (fun v₁ v₂ rest e => keyKind_strs (by rw [← e]; exact hS)) (by rw [hvl]; exact h64) fun st' hp hs => ⟨_, rfl, ?_⟩)
    (args_list_sort _)))
  obtain ⟨ys, q1, q2, q3⟩ := sorted_out_str hS hp hs
  obtain ⟨c, hc⟩ := sortedHeap_at (vs := vs) (out := (arrOf st').map (·.2)) hoL
  refine wpAny_pure ⟨_, rfl, hQ _ s1.heap.objs.size _ c ys (fun b u e => ?_) g1 o1 hz hc q1 (q2.trans pl.symm) q3⟩
  have q := k1 b u e
  have hlt := Heap.lt_size q
  rw [sortedHeap_old (Nat.ne_of_lt hlt) (by rw [size_push']; exact Nat.lt_succ_of_lt hlt)]
  exact Heap.get?_push_of_some _ q
end
/-! ### in the walk -/
def SetSO (X : Cx) (a : Addr) (l : List Str) : HO := .ext fun h => SetT X.prog X.w h a l
theorem setSO_new {X : Cx} {H : Hp} {h : Heap} {a : Addr} {l : List Str} (R : SetT X.prog X.w h a l) : ObjOk X.prog X.w H h a (SetSO X a l) := by
  have ⟨D, ho, _⟩ := R
  exact ⟨R, ⟨_, ho⟩, fun h1 h2 p k => SetT.at p k⟩
theorem setSO_get {X : Cx} {pins : List (Addr × Obj)} {σ : L2.St} {H : Hp} {s : Shared} {a : Addr} {l : List Str} (I : Inv X pins σ H s) (ha : H a = some (SetSO X a l)) : SetT X.prog X.w s.heap a l := (I.hok a _ ha).1
section
variable {X : Cx} {M : Mp} {Q : VQ}
theorem oc_setL (hc : X.calm = true) {w : VV} {xs : List Str} (h : Lst M w (xs.map .str)) (hz : xs.length < 1000) (q : ∀ p ys M2, (∀ x, x ∈ ys ↔ x ∈ xs) → ys.Nodup → M p = none → LeM M M2 → M2 p = some (.fix (SetSO X p ys)) → Q (.ref p) M2) : OC X (.type "set") [w] M Q := fun H vs m r => by
  cases r with
  | cons r1 r2 =>
    cases r2
    obtain ⟨ad, vs, rfl, h1, h2⟩ := h.v m r1
    intro pins s σ us I rv
    obtain ⟨its, rvs, hl, hsz⟩ := I.list h1
    rw [Vals.ref1 rv]
    have e := rvs_strsV h2
    subst e
    refine call_setT (I.ok.hd hc) hl.isList (by simpa using rvs.strs) (Nat.lt_of_lt_of_le (Nat.add_lt_add_right hz 1) (by decide)) fun h' tk ys hm R k => ?_
    have hf : H s.heap.objs.size = none := I.hok.fresh (Nat.le_refl _)
    exact ⟨.ref s.heap.objs.size, upd H s.heap.objs.size (SetSO X s.heap.objs.size ys), I.laid (t' := tk) k (Nat.le_refl _) (setSO_new R), rfl, .ref _, _, TM.fresh hf, m.put (TM.fresh hf) (.inl hf) (o := .fix (SetSO X s.heap.objs.size ys)) (by intro z; cases z) upd_same, .ref _, q _ ys _ hm (by obtain ⟨_, _, _, hn, _⟩ := R; exact hn) (m.no hf) (LeM.new (m.no hf)) updM_same⟩
theorem oc_sortSet (hc : X.calm = true) {a : Addr} {l : List Str} (h : M a = some (.fix (SetSO X a l))) (hz : l.length < 64) (q : ∀ p M2, M p = none → LeM M M2 → M2 p = some (.lst ((srt l).map .str)) → Q (.ref p) M2) : OC X (.builtin "sorted") [.ref a] M Q := fun H vs m r => by
  cases r with
  | cons r1 r2 =>
    cases r2; cases r1
    intro pins s σ us I rv
    have R := setSO_get I (m a _ h)
    rw [Vals.ref1 rv]
    refine sorted_setT R (I.ok.hd hc) hz fun s' p out c ys k g o hp hg hi hpm hs => ?_
    have hlen : (ys.map V.str).length ≤ sizeLine := by rw [List.length_map, hpm.length_eq, sizeLine_eq]; omega
    have hn : H p = none := I.hok.fresh hp
    have J : Inv X pins σ (upd H p (.lst (ys.map V.str))) { s with heap := s'.heap, gens := s'.gens, drawn := s'.drawn, toks := s'.toks } :=
      I.call (ch := []) (Un.laid k hp hn) (I.hok.laid k hp ⟨hlen, out.toList, c, vals_of_strs hi, by rw [Array.toArray_toList]; exact hg⟩) (by rw [g]; exact I.bare) (fun _ z => nomatch z)
    have e : s' = { s with heap := s'.heap, gens := s'.gens, drawn := s'.drawn, toks := s'.toks } := by
      cases s'
      cases s
      cases o
      rfl
    rw [e]
    have ey := srt_is hpm hs
    subst ey
    exact ⟨.ref p, _, J, rfl, .ref _, _, TM.fresh hn, m.putL (TM.fresh hn) (.inl hn) (rvs_strs _), .ref _, q p _ (m.no hn) (LeM.new (m.no hn)) updM_same⟩
end
/-- a set's texts in order are those of any row of the same ones, each once -/
theorem srt_set {l m : List Str} (hl : l.Nodup) (hm : m.Nodup) (h : ∀ x, x ∈ l ↔ x ∈ m) : srt l = srt m :=
  srt_congr ((List.perm_ext_iff_of_nodup hl hm).mpr h)
end G3

set_option Elab.async false
set_option linter.all false
set_option maxRecDepth 100000
set_option maxHeartbeats 4000000
/-! the lesser of two texts; setdefault -/
namespace G3
open PySem PySem.Spec L2 PyProof.Rows
def minS (a b : Str) : Str := if b.cps.toList < a.cps.toList then b else a
section
variable {prog : Program} {w : World} {A : Around} {E : Value → Shared → Prop} {s : Shared}
theorem min_two_strs {a b : Str} {t u : Tok} {Q : Value → Shared → Prop} (hh : A.handled = none)
    (h : ∀ h' tk v, (∀ c o, s.heap.get? c = some o → h'.get? c = some o) → (∃ z, v = .str (minS a b) z) → Q v { s with heap := h', toks := tk }) :
    wpAny (model prog w) A (call (.builtin "min") [.str a t, .str b u]) Q E s := by
  have hT : (s.heap.push { cls := .type "tuple", data := .seq #[.str a t, .str b u] }).IsTuple s.heap.objs.size #[.str a t, .str b u] := ⟨_, Heap.get?_push_size _ rfl, rfl, 0, rfl⟩
  refine call_min_two (wpAny_pyIter_tuple hT ?_)
  have hsz : (s.heap.push { cls := .type "tuple", data := .seq #[.str a t, .str b u] }).objs.size = s.heap.objs.size + 1 := Heap.size_push ..
  have cmp : CmpOf prog w A.in1 .Lt (fun i v => (#[Value.str a t, Value.str b u] : Array Value)[i]? = some v) (fun i j => decide ((if i = 0 then a else b).cps.toList < (if j = 0 then a else b).cps.toList)) := by
    intro i j vi vj s Q E hi hj hQ
    have get : ∀ (i : Nat) (v : Value), (#[Value.str a t, Value.str b u] : Array Value)[i]? = some v → ∃ z, v = Value.str (if i = 0 then a else b) z := fun i v hv => by
      match i, hv with
      | 0, hv => cases hv; exact ⟨t, rfl⟩
      | 1, hv => cases hv; exact ⟨u, rfl⟩
      | i + 2, hv => simp at hv
    obtain ⟨z1, rfl⟩ := get i vi hi
    obtain ⟨z2, rfl⟩ := get j vj hj
    exact lt_str hQ
  refine ⟨_, [_, s.heap.objs.size], [_], _, _, _, _, rfl, Walks.tuple (A := A.in1) hh _ s.heap.objs.size (by rw [hsz]; exact Nat.ne_of_lt (Nat.lt_succ_self _)) #[.str a t, .str b u],
    ⟨⟨_, Heap.get?_push_size _ rfl, rfl, rfl⟩, hT.push _⟩, fun c hc => ?_, by simp, cmp, fun v h' tk hP hk => ?_⟩
  · show c < ((s.heap.push _).push _).objs.size
    rw [Heap.size_push, hsz]
    rcases List.mem_cons.mp hc with rfl | hc
    · rw [hsz]; exact Nat.lt_succ_self _
    · rcases List.mem_cons.mp hc with rfl | hc
      · exact Nat.lt_succ_of_lt (Nat.lt_succ_self _)
      · cases hc
  · have hold : ∀ c o, s.heap.get? c = some o → h'.get? c = some o := fun c o e => by
      refine hk c o (fun hm => ?_) (Heap.get?_push_of_some _ (Heap.get?_push_of_some _ e))
      rcases List.mem_cons.mp hm with e1 | hm
      · have := Heap.lt_size e; rw [e1, hsz] at this; exact Nat.lt_irrefl _ (Nat.lt_of_succ_lt this)
      · cases hm
    refine h h' tk v hold ?_
    unfold minS
    by_cases hba : b.cps.toList < a.cps.toList
    · have e : argBest (fun i j => decide ((if i = 0 then a else b).cps.toList < (if j = 0 then a else b).cps.toList)) 1 = 1 := by simp [argBest, hba]
      have hP' : (#[.str a t, .str b u] : Array Value)[1]? = some v := by rw [← e]; exact hP
      cases hP'
      exact ⟨u, by rw [if_pos hba]; rfl⟩
    · have e : argBest (fun i j => decide ((if i = 0 then a else b).cps.toList < (if j = 0 then a else b).cps.toList)) 1 = 0 := by simp [argBest, hba]
      have hP' : (#[.str a t, .str b u] : Array Value)[0]? = some v := by rw [← e]; exact hP
      cases hP'
      exact ⟨t, by rw [if_neg hba]; rfl⟩
end
theorem oc_minS {X : Cx} {M : Mp} {Q : VQ} (hc : X.calm = true) {a b : Str} (q : Q (.str (minS a b)) M) : OC X (.builtin "min") [.str a, .str b] M Q := fun H vs m r => by
  cases r with | cons r1 r2 => cases r2 with | cons r3 r4 =>
    cases r1; cases r3; cases r4
    intro pins s σ us I rv
    obtain ⟨u, w', rfl, ⟨t, rfl⟩, ⟨t', rfl⟩⟩ := vals2 rv
    refine min_two_strs (I.ok.hd hc) fun h' tk v k ⟨z, e⟩ => ?_
    exact ⟨_, H, I.kept k, by rw [e]; exact ⟨z, rfl⟩, .mk m (.str _) q⟩
section
variable {X : Cx} {o e f : Expr} {σ : St3} {M : Mp} {Q : VQ}
/-- d.setdefault(y, z) -/
theorem we_setd {apos cpos : Pos} (h : WE X o σ M fun u M1 => ∃ a kv0, u = .ref a ∧ M1 a = some (.dK kv0) ∧ WE X e σ M1 fun y M2 => WE X f σ M2 fun z M3 => ∃ kvs k, M3 a = some (.dK kvs) ∧ y = kW k ∧ kvs.length < sizeLine ∧
      (∀ w, lookW kvs k = some w → Q w M3) ∧ (lookW kvs k = none → Q z (updM M3 a (.dK (putW kvs k z)))))
    (m1 : attributeBase o "setdefault" X.env (eval o X.env) = eval o X.env := by rfl)
    (m2 : ((backTo cpos (starEach [e, f] X.env)).all (fun x => !x.1) && (backToKw cpos (keywordEach [] X.env)).all (fun x => x.1.isSome)
      && decide (([e, f] : List Expr).length + ([] : List Keyword).length + (if ([] : List Keyword).isEmpty then 0 else 1) < 30)) = true := by rfl)
    (m3 : (apos.endLine == cpos.line) = true := by rfl) (m4 : backTo cpos (starEach [e, f] X.env) = [(false, eval e X.env), (false, eval f X.env)] := by rfl) :
    WE X (.Call (.Attribute o "setdefault" apos) [e, f] [] cpos) σ M Q := fun σ' H s m =>
  wE.of (pe_dsetd wE.pe wE.pe wE.pe ⟨m1, m2, m3, m4⟩) (h.run s m fun v H1 u M1 t1 m1 r1 s1 ⟨a, kv0, e1, e2, q1⟩ => by
    subst e1; cases r1
    obtain ⟨gs0, h0, _⟩ := m1 _ _ e2
    refine ⟨a, rfl, .inl ⟨gs0, .inl h0⟩, q1.run s1 m1 fun v2 H2 y M2 t2 m2 r2 s2 q2 => q2.run s2 m2 fun v3 H3 z M3 t3 m3 r3 s3 ⟨kvs, k, e3, ey, hl, q3, q4⟩ => ?_⟩
    subst ey
    obtain ⟨gs, h3, rk⟩ := m3 _ _ e3
    have ek := Rv.key r2
    subst ek
    refine ⟨gs, k, h3, rfl, by rw [rk.len]; exact hl, fun v hv => ?_, fun hv => ?_⟩
    · cases hw : lookW kvs k with
      | none => rw [(rk.val k).2 hw] at hv; cases hv
      | some w =>
        obtain ⟨v', e', rw'⟩ := (rk.val k).1 w hw
        rw [hv] at e'
        cases e'
        exact ⟨w, M3, (t1.trans t2).trans t3, m3, rw', q3 w hw⟩
    · have hw : lookW kvs k = none := by
        cases hw : lookW kvs k with
        | none => rfl
        | some w =>
          obtain ⟨v', e', rw'⟩ := (rk.val k).1 w hw
          rw [hv] at e'
          cases e'
      have t := TM.dK (ho := .dK (putK gs k v3)) h3
      exact ⟨z, _, ((t1.trans t2).trans t3).trans t, m3.put (p := a) (o := .dK (putW kvs k z)) t (.inr ⟨_, e3⟩) (by intro z; cases z) ⟨_, upd_same, (rk.put k r3).mono t⟩, Rv.mono t _ _ r3, q4 hw⟩)
end
/-- list(e.values()) -/
def tListVals (te : TE) : TE := fun σ H Q => te σ H fun x H1 => ∃ a kvs, x = V.ref a ∧ H1 a = some (.dK kvs) ∧ ∀ p, H1 p = none → Q (.ref p) (upd H1 p (.lst (kvs.map (·.2))))
theorem vals_at : ∀ {us : List Value} {kvs : List (Key × V)} {vs : List (Key × Value)}, KV kvs vs → us.length = vs.length → (∀ (j : Nat) (v : Value), us[j]? = some v → ∃ k, vs[j]? = some (k, v)) → Vals (kvs.map (·.2)) us
  | [], _, _, .nil, _, _ => .nil
  | u :: us, _, _, .nil, hl, _ => by simp at hl
  | [], _, _, .cons _ _, hl, _ => by simp at hl
  | u :: us, _, _, .cons h t, hl, hv => by
    obtain ⟨k, e⟩ := hv 0 u rfl
    simp only [List.getElem?_cons_zero, Option.some.injEq] at e
    refine .cons ?_ (vals_at t (by simpa using hl) fun j v e => hv (j + 1) v (by simpa using e))
    have := h.2
    rw [e] at this
    exact this
section
variable {X : Cx} {e : Expr} {te : TE} {p apos cpos pos : Pos}
theorem pe_listVals (hc : X.calm = true) (he : PE X e te) (hg : Gl X "list") (hm : X.mg "list" = none) (hv : bootBuiltins "list" = some (.type "list")) (hbase : attributeBase e "values" X.env (eval e X.env) = eval e X.env := by rfl) (hline : (apos.endLine == cpos.line) = true := by rfl)
    (hs : starEach [.Call (.Attribute e "values" apos) [] [] cpos] X.env = (false, eval (.Call (.Attribute e "values" apos) [] [] cpos) X.env) :: starEach [] X.env := by rfl) :
    PE X (.Call (.Name "list" p) [.Call (.Attribute e "values" apos) [] [] cpos] [] pos) (tListVals te) := by
  refine ⟨fun pins s σ H Q I hq => ?_⟩
  refine wpAny_Call_Name_kw (ld_blt I hg hm hv ?_)
  refine PyProof.Rows.callWith_type1 ?_ hs rfl
  rw [hs]
  show wpAny _ _ (spliced ((false, eval (.Call (.Attribute e "values" apos) [] [] cpos) X.env) :: backTo pos (starEach [] X.env))) _ _ s
  refine Calls.spliced_cons ?_
  refine wpAny_Call_method (T := "dict") (id := "dict.values") hbase rfl hline F.plainAttrs_dict F.slot_dict_values F.type_dict_values (thn (he.run pins s σ H _ I hq) fun u s1 ⟨x, H1, I1, rx, d, kvs, ex, hd, q⟩ => ?_)
  subst ex
  obtain rfl : u = Value.ref d := rx
  obtain ⟨hz, hs0, vs, kv, hdo⟩ := I1.hok d _ hd
  obtain ⟨ep, hat⟩ := hdo.dictAt
  have lk : kvs.length = vs.length := KV.length kv
  have I2 : Inv X pins σ H1 { s1 with heap := s1.heap.push { cls := .type "dict_values", data := .fields #[.ref d] } } := I1.kept (t' := s1.toks) fun b ob q => Heap.get?_push_of_some _ q
  refine ⟨hdo.typeIs, hdo.mapOf.noDict, ?_⟩
  show wpAny _ _ (callWith cpos (.builtin "dict.values") [.ref d] [] []) _ X.xe s1
  refine method_meetsIn F.slot_dict_values F.entry_dict_values rfl (PySem.evalArgs_none ⟨rfl, hdo.typeIs, F.args_dict_values_1 _, _, meets_dict_values (mixKind X.prog X.w) d hs0, ⟨vs, hdo⟩, ?_⟩)
  refine Calls.spliced_nil ?_
  refine PySem.W.kdl_call (PySem.W.kdl_values (knd := mixKind X.prog X.w) (kvs := vs) (ep := ep) (r := s1.heap.objs.size) (d := d)) (I1.ok.hd hc) ⟨⟨_, Heap.get?_push_size _ rfl, rfl, rfl⟩, hat.push _⟩ (by omega) fun h' tk acc c' hk hD hacc => ?_
  have hvv : Vals (kvs.map (·.2)) acc.toList := vals_at kv (by rw [Array.length_toList]; exact hacc.1) fun j v e => hacc.2 j v (by rw [← Array.getElem?_toList]; exact e)
  exact ⟨.ref _, upd H1 _ (.lst (kvs.map (·.2))), I2.laid (t' := tk) hk (Nat.le_refl _)
    (show ObjOk X.prog X.w _ _ _ (.lst (kvs.map (·.2))) from ⟨by rw [List.length_map]; exact hz, acc.toList, c', hvv, by rw [Array.toArray_toList]; exact hD⟩), rfl, q _ (I2.hok.fresh (Nat.le_refl _))⟩
end
theorem Rkv.snds {κ : Type} [DecidableEq κ] {K : PySem.W.Frag} {H : Hp} {gs : List (κ × V)} {kvs : List (κ × VV)} (r : Rkv K H gs kvs) : Rvs K H (gs.map (·.2)) (kvs.map (·.2)) := by
  induction r with
  | nil => exact .nil
  | cons h t ih => exact .cons h ih
section
variable {P : Program} {w : World} {K : PySem.W.Frag} {mg : Str → Option Value} {base : Heap} {CX : CXT} {N : List Str} {sc : Scope} {fl : Bool} {k : Nat}
variable {X : Cx} {e : Expr} {σ : St3} {M : Mp} {Q : VQ}
theorem we_listVals {p apos cpos pos : Pos} (B : Bd P w K mg base CX N sc fl k X) (hg : sc.names.lookup ("list" : Str) = some .globalImplicit) (hm : mg "list" = none)
    (h : WE X e σ M fun u M1 => ∃ a kvs, u = .ref a ∧ M1 a = some (.dK kvs) ∧ ∀ p M2, M1 p = none → LeM M1 M2 → M2 p = some (.lst (kvs.map (·.2))) → Q (.ref p) M2)
    (hbase : attributeBase e "values" X.env (eval e X.env) = eval e X.env := by rfl) (hline : (apos.endLine == cpos.line) = true := by rfl)
    (hs : starEach [.Call (.Attribute e "values" apos) [] [] cpos] X.env = (false, eval (.Call (.Attribute e "values" apos) [] [] cpos) X.env) :: starEach [] X.env := by rfl) :
    WE X (.Call (.Name "list" p) [.Call (.Attribute e "values" apos) [] [] cpos] [] pos) σ M Q := fun σ' H s m =>
  wE.of (pe_listVals B.calm wE.pe (by show X.env.scope.names.lookup _ = _; rw [B.esc]; exact hg) (by rw [B.emg]; exact hm) bb_list hbase hline hs) (h.run s m fun v H1 u M1 t1 m1 r1 s1 ⟨a, kvs, e1, e2, q⟩ => by
    subst e1; cases r1
    obtain ⟨gs, h0, rk⟩ := m1 _ _ e2
    refine ⟨a, gs, rfl, h0, fun p hp => ?_⟩
    exact ⟨.ref p, _, t1.trans (TM.fresh hp), m1.putL (TM.fresh hp) (.inl hp) rk.snds, .ref p, q p _ (m1.no hp) (LeM.new (m1.no hp)) updM_same⟩)
end
end G3

set_option Elab.async false
set_option linter.all false
set_option maxRecDepth 100000
set_option maxHeartbeats 4000000
/-! a lambda is made; sorted(d, key=lambda x: (d[x][1], x)) -/
namespace G3
open PySem PySem.Spec L2 PyProof.Rows
section
variable {X : Cx} {pins : List (Addr × Obj)} {σ : L2.St} {H : Hp} {s : Shared} {M : Mp}
theorem tbl_grow {P c' : Addr} {q : Str} {ps more : Array Value} (m : SimM X.K M H) (hP : M P = some (.tab q)) (eP : H P = some (.tbl ps)) (nC : H c' = none) (tk : PySem.TriplesOk (ps ++ more).toList)
    (ha : ∀ pos cv, codeAmong pos (ps ++ more).toList = some cv → (∃ c, cv = .ref c ∧ H c = some (LamX.CodeO c q) ∧ M c = none) ∨ cv = .ref c') :
    TM H (upd (upd H P (.tbl (ps ++ more))) c' (LamX.CodeO c' q)) ∧ SimM X.K M (upd (upd H P (.tbl (ps ++ more))) c' (LamX.CodeO c' q)) := by
  have mc : M c' = none := m.no nC
  have pc : P ≠ c' := fun z => by subst z; rw [eP] at nC; cases nC
  have oth : ∀ b u, H b = some u → b ≠ P → upd (upd H P (.tbl (ps ++ more))) c' (LamX.CodeO c' q) b = some u := fun b u e n => by
    rw [upd_ne (ne_of_none e nC), upd_ne n]; exact e
  have t : TM H (upd (upd H P (.tbl (ps ++ more))) c' (LamX.CodeO c' q)) :=
    ⟨fun b xs e => oth b _ e (fun z => by subst z; rw [eP] at e; cases e), fun b o u _ e => oth b _ e (fun z => by subst z; rw [eP] at e; cases e)⟩
  have cd : ∀ c, H c = some (LamX.CodeO c q) → c ≠ P := fun c e z => by
    subst z; rw [eP] at e
    unfold LamX.CodeO at e
    cases e
  refine ⟨t, fun a o e => ?_⟩
  by_cases hb : a = P
  · subst hb
    rw [hP] at e; cases e
    refine ⟨ps ++ more, by rw [upd_ne pc, upd_same], tk, fun pos cv hc => ?_⟩
    rcases ha pos cv hc with ⟨c, e1, e2, e3⟩ | e1
    · exact ⟨c, e1, oth c _ e2 (cd c e2), e3⟩
    · exact ⟨c', e1, upd_same, mc⟩
  · exact Ro.stay t (fun b hb => upd_nn (upd_nn hb)) (fun u hu => oth a u hu hb) (fun b u n hu => ⟨oth b u hu (fun z => by subst z; rw [hP] at n; cases n), n⟩) (fun _ h => h) (m a o e)
/-- a lambda is made: all but the table stays -/
theorem lam_new {c P : Addr} {params : Arguments} {body : Expr} {scope : Scope} {pos : Pos} {Er Q : Value → Shared → Prop} (I : Inv X pins σ H s) (m : SimM X.K M H) (TB : LamX.TabB X.base X.mg c P) (hcode : X.env.code = .ref c)
    (hP : M P = some (.tab (X.env.qual ++ "<lambda>"))) (hdef : defaultsOf params X.env = ([], [])) (hfree : ∀ y ∈ scope.names, y.2 = .free → ∃ c, X.env.cells.lookup y.1 = some c)
    (h : ∀ (f c' : Addr) (pm ctv : Value) (H1 : Hp) (s' : Shared), Inv X pins σ H1 s' → TM H H1 → SimM X.K M H1 →
      s'.heap.get? f = some (PySem.W.kla_obj "<lambda>" (X.env.qual ++ "<lambda>") params body scope (cloFrom X.env.cells scope.names []) pm c' ctv) → s'.heap.CodeRec (.ref c') (X.env.qual ++ "<lambda>") →
      (∀ b o, b ≠ P → s.heap.get? b = some o → s'.heap.get? b = some o) → Q (.ref f) s') : wpAny (model X.prog X.w) X.A (eval (.Lambda params body scope pos) X.env) Q Er s := by
  obtain ⟨ps, eP, tk, ha⟩ := m P _ hP
  refine PySem.W.kla_eval hdef ?_
  have bld : s.heap.BuiltinsAt X.mg P := TB.bm.keeps I.bk
  have oP : s.heap.get? P = some { cls := .none, data := .fields ps } := I.hok P _ eP
  have clo := closure_ok hfree
  have gl := I.mod.glob.keeps I.bk
  have cHd := TB.code.keeps I.bk
  cases hc : codeAmong pos ps.toList with
  | some cv =>
    obtain ⟨c', rfl, e2, _⟩ := ha pos cv hc
    refine PySem.W.kla_makeFunctionHit (mg := X.mg) (c := c) (P := P) (ps := ps) clo I.ok.glob gl hcode cHd oP tk hc bld fun ctv hp2 tk2 grow _ => ?_
    have stay : ∀ b o, s.heap.get? b = some o → (hp2.push (PySem.W.kla_obj "<lambda>" (X.env.qual ++ "<lambda>") params body scope (cloFrom X.env.cells scope.names []) ((X.mg "__name__").getD .none) c' ctv)).get? b = some o := fun b o e => Heap.get?_push_of_some _ (grow b o e)
    refine h hp2.objs.size c' _ ctv H _ (I.kept stay) TM.refl m (Heap.get?_push_size _ rfl) ?_ fun b o _ e => stay b o e
    obtain ⟨⟨oc, vs, t, g1, g2, g3⟩, _⟩ := I.hok c' _ e2
    exact ⟨c', oc, vs, t, rfl, stay _ _ g1, g2, g3⟩
  | none =>
    refine PySem.W.kla_makeFunction (mg := X.mg) (c := c) (P := P) (ps := ps) clo I.ok.glob gl hcode cHd oP tk hc TB.gP bld fun c' ctv hp2 tk2 ext ge lt rec tb => ?_
    have nC : H c' = none := I.hok.fresh ge
    have rec2 := rec
    obtain ⟨c2, oc, vs, t, e2, g1, g2, g3⟩ := rec
    cases e2
    let ob := PySem.W.kla_obj "<lambda>" (X.env.qual ++ "<lambda>") params body scope (cloFrom X.env.cells scope.names []) ((X.mg "__name__").getD .none) c' ctv
    have stay : ∀ b o, b ≠ P → s.heap.get? b = some o → (hp2.push ob).get? b = some o := fun b o n e => Heap.get?_push_of_some _ (ext b o n e)
    have I1 := LamX.inv_table (q := X.env.qual ++ "<lambda>") (t' := tk2) (more := #[rawInt pos.line, rawInt pos.col, .ref c']) (h' := hp2.push ob) I eP stay (Heap.get?_push_of_some _ tb) ge ⟨oc, vs, t, Heap.get?_push_of_some _ g1, g2, g3⟩
    have eL : (ps ++ #[rawInt pos.line, rawInt pos.col, Value.ref c']).toList = ps.toList ++ [rawInt pos.line, rawInt pos.col, .ref c'] := Array.toList_append
    obtain ⟨t1, m1⟩ := tbl_grow (more := #[rawInt pos.line, rawInt pos.col, .ref c']) m hP eP nC (by rw [eL]; exact PySem.TriplesOk_snoc _ _ _ _ tk) (fun p2 cv hcv => by
      rw [eL] at hcv
      rcases LamX.among_app _ tk hcv with z | z
      · exact .inl (ha p2 cv z)
      · exact .inr z)
    exact h hp2.objs.size c' _ ctv _ _ I1 t1 m1 (Heap.get?_push_size _ rfl) (rec2.push ob) stay
end
/-- the lambda's body -/
abbrev lamB (nd x : Str) (j kk : Nat) (p1 p2 p3 p4 p5 p6 p7 : Pos) : Expr := .Tuple [.Subscript (.Subscript (.Name nd p1) (.Name x p2) p3) (.Constant (.int 1) j p4) p5, .Name x p6] kk p7
/-- lambda x: (d[x][1], x), called -/
theorem lam_key {prog : Program} {w : World} {A : Around} {s : Shared} {f c' d c tp : Addr} {q x nd : Str} {params : Arguments} {scope : Scope} {cl : List (Str × Addr)} {pm ctv u1 : Value} {k : Str} {t t1 : Tok} {i : Int} {fm : Key → Option Value} {j kk : Nat} {p1 p2 p3 p4 p5 p6 p7 : Pos}
    (hf : s.heap.get? f = some (PySem.W.kla_obj "<lambda>" q params (lamB nd x j kk p1 p2 p3 p4 p5 p6 p7) scope cl pm c' ctv)) (hcr : s.heap.CodeRec (.ref c') q) (lim : s.heap.NoLimit) (room : A.depth < recursionLimit)
    (sk : scope.kind = .function) (sco : scope.isCoroutine = false) (sge : scope.isGenerator = false) (snc : ∀ y ∈ scope.names, y.2 ≠ .cell) (hx : scope.names.lookup x = some .local) (hd : scope.names.lookup nd = some .free)
    (hcl : cl.lookup nd = some c) (hc : s.heap.IsCell c (some (.ref d))) (hbind : bindArgs (PySem.W.kla_fn "<lambda>" q params (lamB nd x j kk p1 p2 p3 p4 p5 p6 p7) scope cl pm (.ref c') ctv) ⟨[.str k t], []⟩ = pure [(x, .str k t)])
    (hD : s.heap.MapOf (mixKind prog w) d fm) (hm : fm (.inr k) = some (.ref tp)) (ht : IsTup s.heap tp #[u1, .int i t1])
    (d1 : (nd == ("__debug__" : Str)) = false) (d2 : (x == ("__debug__" : Str)) = false) (d3 : (nd == ("__classdict__" : Str)) = false) :
    wpAny (model prog w) A (call (.ref f) [.str k t]) (PySem.W.KeyPure (.tuple [.int i, .str k]) s) (fun _ _ => False) s := by
  refine wpAny_call (PySem.W.kla_callFunE room hf rfl sco sge rfl hcr ?_)
  rw [hbind]
  refine wpAny_pure (wpAny_newFunctionEnv snc (fun y hy => by simp at hy; subst hy; exact hx) (fun h₁ ns sb => ⟨lim.fresh _ sb, ?_⟩) sk)
  show codeAny _ _ (.expr _ (PySem.W.envX q scope s.heap.objs.size f (.ref c') cl)) _ _
  have kp : ∀ b o, s.heap.get? b = some o → h₁.get? b = some o := fun b o e => sb.extBut b o (Nat.ne_of_lt (Heap.lt_size e)) (Heap.get?_push_of_some _ e)
  have keep2 : ∀ {h : Heap}, (∀ b o, h₁.get? b = some o → h.get? b = some o) → h.MapOf (mixKind prog w) d fm := fun {h} g => by
    obtain ⟨o, es, ep, e, r⟩ := hD
    exact ⟨o, es, ep, g _ _ (kp _ _ e), r⟩
  have look : (fun y => ([(x, Value.str k t)] : List (Str × Value)).reverse.lookup y) x = some (.str k t) := by simp
  refine PySem.W.kla_codeExpr (wpAny_Tuple_spliced (Calls.spliced_cons (Subscript_ (Subscript_ ?_))))
  refine wpAny_Name (wpAny_loadName_free sk hd hcl (hc.keeps kp) ?_ d3) d1
  refine wpAny_Name (wpAny_loadName_local (v := .str k t) sk hx ns look ?_) d2
  refine tail_any (T := "dict") (ops := [.ref d, .str k t]) (keep2 fun _ _ e => e).typeIs PySem.F.slot_dict_getitem.lookup (wpAny_getItem_of (knd := mixKind prog w) (k := Sum.inr k) (kV_is ⟨t, rfl⟩) (keep2 fun _ _ e => e) hm ?_) rfl
  refine wpAny_Constant_int ?_
  refine subscriptTail_builtinR (x := .int i t1) (ht.keeps kp).typeIs slot_tuple_getitem.lookup (getItem_tuple (j := 1) (ht.keeps kp) (by decide) (by decide) rfl rfl ⟨rfl, ?_⟩) rfl
  refine Calls.spliced_cons (wpAny_Name (wpAny_loadName_local (v := .str k t) sk hx ns look ?_) d2)
  refine Calls.spliced_nil ⟨by show 2 ≤ sizeLine; decide, ?_⟩
  refine ⟨_, _, rfl, fun b o e => Heap.get?_push_of_some _ (kp b o e), ?_⟩
  exact .tuple (Heap.get?_push_size _ rfl) rfl rfl (.cons (.int _ _) (.cons (.str _ _) .nil))
end G3

set_option Elab.async false
set_option linter.all false
set_option maxRecDepth 100000
set_option maxHeartbeats 4000000
/-! sorted(d, key=lambda x: (d[x][1], x)) -/
namespace G3
open PySem PySem.Spec L2 PyProof.Rows
abbrev keyBy (rk : Str → Int) (k : Str) : PyData := .tuple [.int (rk k), .str k]
/-- texts by a number, then by themselves -/
def srtBy (rk : Str → Int) (ks : List Str) : List Str := ks.mergeSort (PySem.W.dataLe false (keyBy rk))
section
variable {X : Cx} {pins : List (Addr × Obj)} {σ : L2.St} {H : Hp} {s : Shared} {Q : VK}
theorem sorted_by {d f : Addr} {kvs : List (Key × V)} {ks : List Str} (rk : Str → Int) (I : Inv X pins σ H s) (hcalm : X.calm = true) (hd : Rd H d (.dK kvs)) (hk : kvs.map (·.1) = ks.map Sum.inr) (hu : X.A.units + 10 < cLine)
    (turn : ∀ (k : Str) (t : Tok), k ∈ ks → ∀ (h : Heap) (tk : Nat), (∀ b o, s.heap.get? b = some o → h.get? b = some o) → wpAny (model X.prog X.w) X.A.in1.in1 (call (.ref f) [.str k t]) (PySem.W.KeyPure (keyBy rk k) { s with heap := h, toks := tk }) (fun _ _ => False) { s with heap := h, toks := tk })
    (q : ∀ p, H p = none → Q (.ref p) (upd H p (.lst ((srtBy rk ks).map V.str)))) : wpAny (model X.prog X.w) X.A (call (.builtin "sorted") [.ref d] [(Str.ofString "key", .ref f)]) (EP X pins σ Q) X.xe s := by
  obtain ⟨z, lo, vs, rel, dd⟩ := dk_rd I.hok hd
  obtain ⟨ep, hat⟩ := dd.dictAt
  have hkeys : vs.map (·.1) = ks.map Sum.inr := by rw [← hk]; exact rel.keys.symm
  have hl : vs.length = ks.length := by have e := congrArg List.length hkeys; simpa using e
  have hzk : ks.length ≤ sizeLine := by rw [← hl, ← rel.length]; exact z
  refine call_function_entry_kw kind_sorted plain_sorted entry_sorted (ksk_s1 _ _) ?_
  unfold Builtin.«sorted»
  refine wpAny_bind (m := checkCount "sorted" 1 1 _) (wpAny_pure (wpAny_bind ?_))
  refine PySem.W.kdu_collect (PySem.W.kdl_dict (knd := mixKind X.prog X.w) (kvs := vs) (ep := ep) lo) (I.ok.hd hcalm) hat (by rw [hl]; exact hzk) fun h1 t1 acc grow got => ?_
  have la : acc.toList.length = ks.length := by rw [Array.length_toList, got.1, hl]
  have ea : PySem.W.EachIs (fun v k => ∃ t, v = Value.str k t) acc.toList ks := each_of (γ := Unit) la fun j v k hv hkj => by
    obtain ⟨key, u, e1, e2⟩ := got.2 j v (by rw [← Array.getElem?_toList]; exact hv)
    have e3 : (ks.map (Sum.inr : Str → Key))[j]? = some key := by rw [← hkeys, List.getElem?_map, e1]; rfl
    rw [List.getElem?_map, hkj] at e3
    cases e3
    obtain ⟨t, ev⟩ := Value.isStrOf_shape (x := k) (v := v) e2
    exact ⟨t, ev⟩
  have I1 : Inv X pins σ H { s with heap := h1, toks := t1 } := I.kept grow
  have hza : acc.toList.length ≤ sizeLine := by rw [la]; exact hzk
  refine wpAny_bind (wpAny_newList ?_ hza)
  let L := h1.objs.size
  let hL := h1.push (seqObj "list" acc.toList.toArray 0)
  have oL : hL.get? L = some (seqObj "list" acc.toList.toArray 0) := Heap.get?_push_size _ rfl
  have up : ∀ b o, h1.get? b = some o → b ≠ L ∧ hL.get? b = some o := fun b o e => ⟨Nat.ne_of_lt (Heap.lt_size e), Heap.get?_push_of_some _ e⟩
  show wpAny _ _ _ _ _ { s with heap := hL, toks := t1 }
  refine wpAny_bind (wpAny_holding (wpAny_call_entry_kw slot_list_sort ⟨_, oL, rfl⟩ entry_list_sort ?_ (ksk_l1 _ _)))
  rw [ksk_t1]
  refine PySem.W.keyH_tree (s := { s with heap := hL, toks := t1 }) (kz := ks.map (keyBy rk)) oL (by rw [List.length_map, la]) hza ?al ?so ?un ?tu fun h2 t2 out c kp at2 ko => ⟨_, rfl, ?_⟩
  case al =>
    refine PySem.W.AllAlike.of fun a b => ?_
    simp [keyBy, PySem.W.alike, PySem.W.alikeAll]
  case so => exact PySem.W.Sortable.tuples fun b => ⟨_, _, rfl⟩
  case un =>
    intro y hy
    obtain ⟨k, _, rfl⟩ := List.mem_map.mp hy
    show X.A.units + 1 + 1 + PyData.depth (keyBy rk k) < cLine
    have : PyData.depth (keyBy rk k) = 1 := by simp [keyBy, PyData.depth, PyData.depthAll]
    omega
  case tu =>
    refine PySem.W.keyH_turns (R := fun v k => ∃ t, v = Value.str k t) (s := { s with heap := hL, toks := t1 }) ea fun v k ⟨t, ev⟩ hm h tk kp => ?_
    subst ev
    exact turn k t hm h tk fun b o e => kp b o (up b o (grow b o e)).1 (up b o (grow b o e)).2
  have eo := PySem.W.keyedOut_each (keyBy rk) ko ea
  have vo : Vals ((srtBy rk ks).map V.str) out := by
    have key : ∀ {os : List Value} {ys : List Str}, PySem.W.EachIs (fun v k => ∃ t, v = Value.str k t) os ys → Vals (ys.map V.str) os := fun {os ys} e => by
      induction e with
      | nil => exact .nil
      | cons h _ ih => exact .cons h ih
    exact key eo
  have hz2 : ((srtBy rk ks).map V.str).length ≤ sizeLine := by
    rw [List.length_map]; unfold srtBy
    rw [List.length_mergeSort]; exact hzk
  refine wpAny_pure ⟨_, rfl, .ref L, upd H L (.lst ((srtBy rk ks).map V.str)), I1.laid (t' := t2) (h' := h2) (fun b u e => kp b u (up b u e).1 (up b u e).2) (Nat.le_refl _) ?_, rfl, q L (I1.hok.fresh (Nat.le_refl _))⟩
  exact ⟨hz2, out, c, vo, at2⟩
end
end G3

set_option Elab.async false
set_option linter.all false
set_option maxRecDepth 100000
set_option maxHeartbeats 4000000
/-! sorted(d, key=lambda x: (d[x][1], x)), in the walk -/
namespace G3
open PySem PySem.Spec L2 PyProof.Rows
def leBy (rk : Str → Int) (a b : Str) : Bool := decide (rk a < rk b ∨ rk a = rk b ∧ a.cps.toList ≤ b.cps.toList)
theorem str_cps {a b : Str} (h : a.cps.toList = b.cps.toList) : a = b := by
  obtain ⟨x⟩ := a
  obtain ⟨y⟩ := b
  have : x = y := Array.toList_inj.mp h
  rw [this]
theorem keyBy_le (rk : Str → Int) (a b : Str) : PySem.W.dataLe false (keyBy rk) a b = leBy rk a b := by
  show (!PySem.W.dataLt (keyBy rk b) (keyBy rk a)) = _
  unfold keyBy leBy
  rw [PySem.W.dataLt_pair (by simp [PySem.W.alike]) (by simp [PySem.W.alike]), PySem.W.dataLt_int, PySem.W.dataLt_str]
  simp only [PyData.eqv, beq_iff_eq]
  by_cases h1 : rk b = rk a
  · rw [if_pos h1]
    by_cases h2 : b = a
    · subst h2; simp
    · rw [if_neg h2, PySem.W.not_lt_str]
      exact decide_eq_decide.mpr ⟨fun h => .inr ⟨h1.symm, h⟩, fun h => h.elim (fun z => by omega) fun z => z.2⟩
  · rw [if_neg h1, PySem.W.not_lt_int]
    exact decide_eq_decide.mpr ⟨fun h => .inl (by omega), fun h => h.elim (fun z => by omega) fun z => by omega⟩
theorem srtBy_eq (rk : Str → Int) (ks : List Str) : srtBy rk ks = ks.mergeSort (leBy rk) := by
  unfold srtBy
  congr 1
  funext a b
  exact keyBy_le rk a b
theorem leBy_trans (rk : Str → Int) (a b c : Str) (h1 : leBy rk a b = true) (h2 : leBy rk b c = true) : leBy rk a c = true := by
  have h1 := of_decide_eq_true h1
  have h2 := of_decide_eq_true h2
  refine decide_eq_true ?_
  rcases h1 with h1 | ⟨h1, g1⟩ <;> rcases h2 with h2 | ⟨h2, g2⟩
  · exact .inl (by omega)
  · exact .inl (by omega)
  · exact .inl (by omega)
  · exact .inr ⟨by omega, List.le_trans g1 g2⟩
theorem leBy_total (rk : Str → Int) (a b : Str) : (leBy rk a b || leBy rk b a) = true := by
  unfold leBy
  rw [← Bool.decide_or]
  refine decide_eq_true ?_
  rcases Int.lt_trichotomy (rk a) (rk b) with h | h | h
  · exact .inl (.inl h)
  · rcases List.le_total a.cps.toList b.cps.toList with g | g
    · exact .inl (.inr ⟨h, g⟩)
    · exact .inr (.inr ⟨h.symm, g⟩)
  · exact .inr (.inl h)
theorem leBy_anti (rk : Str → Int) (a b : Str) (h1 : leBy rk a b = true) (h2 : leBy rk b a = true) : a = b := by
  have h1 := of_decide_eq_true h1
  have h2 := of_decide_eq_true h2
  rcases h1 with h1 | ⟨h1, g1⟩
  · rcases h2 with h2 | ⟨h2, _⟩ <;> omega
  · rcases h2 with h2 | ⟨h2, g2⟩
    · omega
    · exact str_cps (List.le_antisymm g1 g2)
theorem srtBy_perm (rk : Str → Int) (ks : List Str) : (srtBy rk ks).Perm ks := List.mergeSort_perm _ _
theorem srtBy_mem {rk : Str → Int} {ks : List Str} {x : Str} : x ∈ srtBy rk ks ↔ x ∈ ks := (srtBy_perm rk ks).mem_iff
theorem srtBy_len (rk : Str → Int) (ks : List Str) : (srtBy rk ks).length = ks.length := (srtBy_perm rk ks).length_eq
theorem srtBy_pw (rk : Str → Int) (ks : List Str) : (srtBy rk ks).Pairwise (fun a b => leBy rk a b = true) := by
  rw [srtBy_eq]
  exact List.pairwise_mergeSort (leBy_trans rk) (leBy_total rk) ks
theorem srtBy_congr {rk rk2 : Str → Int} {l l' : List Str} (h : l.Perm l') (hr : ∀ x ∈ l, rk x = rk2 x) : srtBy rk l = srtBy rk2 l' := by
  refine List.Perm.eq_of_pairwise (le := fun a b => leBy rk a b = true) (fun a b _ _ => leBy_anti rk a b) (srtBy_pw rk l) ?_ ((srtBy_perm rk l).trans (h.trans (srtBy_perm rk2 l').symm))
  refine (srtBy_pw rk2 l').imp_of_mem fun {a b} ha hb g => ?_
  have e1 := hr a (h.mem_iff.mpr (srtBy_mem.mp ha))
  have e2 := hr b (h.mem_iff.mpr (srtBy_mem.mp hb))
  unfold leBy at g ⊢
  rw [e1, e2]; exact g
/-- where a def's code object and its table stand -/
structure Cod (X : Cx) (c P : Addr) (q : Str) : Prop where
  code : X.env.code = .ref c
  qual : X.env.qual = q
  tab : LamX.TabB X.base X.mg c P
section
variable {X : Cx} {Ev0 : Ev} {N : List Str} {sc : Scope} {fl : Bool} {k : Nat} {σ : St3} {M : Mp} {Q : VQ} {β : Type}
theorem we_sortBy (B : Ev0.bd N sc fl k X) {c P : Addr} {qn : Str} (C : Cod X c P qn) (hg : sc.names.lookup ("sorted" : Str) = some .globalImplicit) (hm : Ev0.mg "sorted" = none) {nd x : Str} {i : Nat} {a : Addr} (hi : At N i nd) (hcel : sc.names.lookup nd = some .cell ∨ sc.names.lookup nd = some .free)
    (hs : σ[i]? = some (some (.ref a))) {f : β → VV} {l : List (Str × β)} (hd : DkAt M a (dS f l)) (rk : Str → Int) (hv : ∀ n b, getS l n = some b → ∃ u, f b = .tup [u, .int (rk n)]) (hP : M P = some (.tab (qn ++ "<lambda>")))
    {params : Arguments} {scope : Scope} {j kk : Nat} {p p0 p1 p2 p3 p4 p5 p6 p7 lpos kpos pos : Pos}
    (q : ∀ r M2, M r = none → LeM M M2 → M2 r = some (.lst ((srtBy rk (l.map (·.1))).map .str)) → Q (.ref r) M2)
    (sk : scope.kind = .function := by rfl) (sco : scope.isCoroutine = false := by rfl) (sge : scope.isGenerator = false := by rfl) (snc : ∀ y ∈ scope.names, y.2 ≠ .cell := by decide +kernel) (sfr : ∀ y ∈ scope.names, y.2 = .free → y.1 = nd := by decide +kernel)
    (hx : scope.names.lookup x = some .local := by rfl) (hdn : scope.names.lookup nd = some .free := by rfl) (hdef : defaultsOf params X.env = ([], []) := by rfl)
    (hbind : ∀ (q : Str) (cl : List (Str × Addr)) (pm cv ctv v : Value), bindArgs (PySem.W.kla_fn "<lambda>" q params (lamB nd x j kk p1 p2 p3 p4 p5 p6 p7) scope cl pm cv ctv) ⟨[v], []⟩ = pure [(x, v)] := by intros; rfl)
    (d1 : (nd == ("__debug__" : Str)) = false := by decide) (d2 : (x == ("__debug__" : Str)) = false := by decide) (d3 : (nd == ("__classdict__" : Str)) = false := by decide) :
    WE X (.Call (.Name "sorted" p) [.Name nd p0] [⟨some "key", .Lambda params (lamB nd x j kk p1 p2 p3 p4 p5 p6 p7) scope lpos, kpos⟩] pos) σ M Q := by
  have hk : VisK sc nd := .inr hcel
  have wa : WA X [.Name nd p0] σ M fun us M1 => us = [.ref a] ∧ M1 = M := wa_cons (we_nm B hi hk hs (wa_nil ⟨rfl, rfl⟩) d1 d3)
  obtain ⟨Pr, w, K, mg, base, CX, hp⟩ := Ev0
  obtain ⟨rfl, rfl, rfl, rfl, rfl, rfl, rfl, calm, room, pas, own, nd', fnx⟩ := B
  intro σ' H s m pins st I
  have bo : bootBuiltins "sorted" = some (.builtin "sorted") := by decide +kernel
  refine wpAny_Call_Name_kw (ld_blt I hg hm bo ?_ (by decide) (by decide))
  refine PyProof.Rows.callWith_kw (thn ((wA.pa (X := X) (e := [.Name nd p0])).run pos pins st σ' H _ I (wa σ' H s m)) fun us s1 ⟨vs, H1, I1, r1, ws, M1, t1, m1, rr, ew, eM⟩ => ?_) rfl rfl rfl rfl
  subst ew; subst eM
  cases rr with | cons ra rb =>
  cases rb; cases ra
  obtain rfl := Vals.ref1 r1
  show wpAny _ _ (evalAll ((do let v ← eval (.Lambda params (lamB nd x j kk p1 p2 p3 p4 p5 p6 p7) scope lpos) X.env; standAt pos; pure v) :: [])) _ _ s1
  obtain ⟨v0, hv0, rv0⟩ := s.get i _ hs
  cases rv0
  have vis : Vis X.env.scope nd := hk
  have cellOf : ∀ {H2 : Hp} {s2 : Shared}, Inv X pins σ' H2 s2 → ∃ cc, X.env.cells.lookup nd = some cc ∧ s2.heap.IsCell cc (some (.ref a)) := fun {H2 s2} I2 => by
    obtain ⟨mm, _, look⟩ := I2.loc
    obtain ⟨u, ru, lk⟩ := look i nd _ hi.get hv0 vis
    cases (show u = Value.ref a from ru)
    rcases lk with ⟨z, _⟩ | ⟨_, cc, e1, e2⟩
    · have z : X.env.scope.names.lookup nd = some .local := z
      rcases hcel with y | y <;> (rw [y] at z; cases z)
    · exact ⟨cc, e1, e2⟩
  have free : ∀ y ∈ scope.names, y.2 = .free → ∃ c, X.env.cells.lookup y.1 = some c := fun y hy e => by
    obtain ⟨cc, e1, _⟩ := cellOf I1
    exact ⟨cc, by rw [sfr y hy e]; exact e1⟩
  refine wpAny_evalAll_cons (wpAny_bind (lam_new I1 m1 C.tab C.code (by rw [C.qual]; exact hP) hdef free fun fa c' pm ctv H2 s2 I2 t2 m2 hf hcr keep => wpAny_bind (wpAny_standAt (wpAny_pure (wpAny_evalAll_nil ?_)))))
  show wpAny _ _ (call (.builtin "sorted") [.ref a] [(Str.ofString "key", .ref fa)]) _ _ s2
  obtain ⟨gs, rd, rg⟩ := hd.v m2
  obtain ⟨_, _, vs, rel, dd⟩ := dk_rd I2.hok rd
  have ru := room.un
  obtain ⟨cc, ec, hcell⟩ := cellOf I2
  refine sorted_by rk I2 calm rd (by rw [rg.keys]; exact dS_keys f l) (by omega) (fun kx t hkx h tk grow => ?_) fun r hr => ?_
  · obtain ⟨b, hb⟩ := Option.isSome_iff_exists.mp (getS_isSome.mpr hkx)
    obtain ⟨u, hu⟩ := hv kx b hb
    obtain ⟨z, hz, rz⟩ := (rg.val (.inr kx)).1 _ (by rw [dS_look, hb]; rfl)
    rw [hu] at rz
    cases rz with | tup hq rs =>
    cases rs with | cons ra rs =>
    cases rs with | cons rb rs =>
    cases rs; cases rb
    obtain ⟨its, rv, pl, _⟩ := I2.tuple hq
    obtain ⟨w1, w2, rfl, q1, q2⟩ := vals2 rv
    obtain ⟨t1', rfl⟩ := q2
    obtain ⟨y, hy, ry⟩ := RelO.some_of (v := .ref _) (o := valueAt vs (.inr kx)) (by rw [← hz]; exact rel.val (.inr kx))
    obtain rfl : y = Value.ref _ := ry
    have inC : (nd, (X.env.cells.lookup nd).getD 0) ∈ cloFrom X.env.cells scope.names [] := cloFrom_has (PySem.mem_of_lookup hdn)
    obtain ⟨c3, hc3⟩ := mem_lookup inC
    have ec3 : c3 = cc := by
      rcases cloFrom_mem (PySem.mem_of_lookup hc3) with z | ⟨_, z⟩
      · cases z
      · rw [z, ec]; rfl
    subst ec3
    exact lam_key (s := { s2 with heap := h, toks := tk }) (grow _ _ hf) (hcr.keeps grow) (I2.nolimit.keeps grow) (by have := room.dp; show X.A.depth < _; omega) sk sco sge snc hx hdn hc3 (hcell.keeps grow) (hbind _ _ _ _ _ _) (dd.keep grow).mapOf hy (pl.keeps grow) d1 d2 d3
  · have rs : Rvs X.K H2 ((srtBy rk (l.map (·.1))).map V.str) ((srtBy rk (l.map (·.1))).map VV.str) := rvs_strs _
    exact ⟨.ref r, updM M1 r (.lst ((srtBy rk (l.map (·.1))).map VV.str)), (t1.trans t2).trans (TM.fresh hr), m2.putL (TM.fresh hr) (.inl hr) rs, .ref r, q r _ (m2.no hr) (LeM.new (m2.no hr)) updM_same⟩
end
end G3

set_option Elab.async false
set_option linter.all false
set_option maxRecDepth 100000
set_option maxHeartbeats 4000000
/-! a def with lambdas in it; the end with tables -/
namespace G3
open PySem PySem.Spec L2 PyProof.Rows
/-- a def of the top, at its known place -/
def TxC (E : Ev) (x : Str) (st : Stmt) (ps : List Str) : Prop := ∃ fd, FunD E.K x x (defArgs st) (defBody st) (defScope st) [] [] (He.fAd E.K (x, none)) fd ∧ E.mg x = some (.ref (He.fAd E.K (x, none))) ∧ ∀ (s : Shared) (us : List Value), us.length = ps.length → BindsTo s fd ⟨us, []⟩ (ps.zip us)
theorem TxC.mk {E : Ev} {h : Heap} {fa : List He.Fa} {fn : List He.DefD} (X : E.K.In h) (G : h.Ns mainGlobals E.mg) (c : He.SaysD fa fn E.K) (i j : Nat) {x : Str} {st : Stmt} {ps : List Str} (hd : fn[i]? = some (dD x st)) (hg : fa[j]? = some (.glo x))
    (hb : ∀ (kV doc pm : Value) (an : Option Addr) (cdv ct : Value) (us : List Value), us.length = ps.length → bindArgs (PySem.W.fnOf x x (defArgs st) (defBody st) (defScope st) .none kV doc pm an cdv ct) ⟨us, []⟩ = pure (ps.zip us)) : TxC E x st ps := by
  obtain ⟨fd, F⟩ := c.def_ i hd
  exact ⟨fd, F, He.glo_ok X G (c.fact j hg), fun s us hl => FunD.bindsA (ps := ps) F hb s us hl⟩
/-- the table of a def's code object -/
abbrev tabP (K : PySem.W.Frag) (x : Str) : Addr := (He.cT K (x, none)).2
abbrev codP (K : PySem.W.Frag) (x : Str) : Addr := (He.cT K (x, none)).1
abbrev lamQ (x : Str) : Str := x ++ ".<locals>." ++ "<lambda>"
theorem TxC.df {E : Ev} (hX : E.xc) {x : Str} {st : Stmt} {ps : List Str} (T : TxC E x st ps) (tb : LamX.TabB E.base E.mg (codP E.K x) (tabP E.K x)) (N : List Str) {k : Nat} {sp : Sp3} (S : FnScope N ps (defScope st)) (len : ∀ ws M Q, sp ws M Q → ws.length = ps.length)
    (body : ∀ X : Cx, E.bd N (defScope st) true k X → Cod X (codP E.K x) (tabP E.K x) (x ++ ".<locals>.") → ∀ ws M Q, sp ws M Q → WSs X (defBody st) (ws.map some ++ List.replicate (N.length - ws.length) none) M
      { nx := fun _ M' => ∃ M0, LeM M0 M' ∧ Q .non M0, rt := fun u M' => ∃ M0, LeM M0 M' ∧ Q u M0 }) : E.df (k + 1) x ps sp := by
  obtain ⟨fd, F, hm, bi⟩ := T
  obtain ⟨P, w, K, mg, base, CX, hp⟩ := E
  have hX' : CX = L2.CX P w := hX
  subst hX'
  have kp := F.kp
  obtain ⟨oc, od, dV, kV, doc, pm, an, cdv, ct, osl, rfl, lk, hcd, _, _⟩ := F.ex
  obtain ⟨c, rfl⟩ := He.codeIn_ref hcd
  have ec : He.codeOf K (x, none) = c := He.codeOf_eq lk rfl
  refine ⟨_, _, hm, kp, bi, fn_of lk hcd S (fun vs H Q Ex ⟨ws, M, Q3, m, r, h, _⟩ => by rw [r.length]; exact len ws M Q3 h) fun A outer s H vs Q Ex hr ⟨ws, M, Q3, m, r, h, hq⟩ => ?_, oc, od, osl, lk⟩
  have B : Bd P w K mg base (L2.CX P w) N (defScope st) true k (cxOf (L2.CX P w) P w K mg base N x (defScope st) (He.fAd K (x, none)) (.ref c) A outer s H Ex) :=
    ⟨rfl, rfl, rfl, rfl, rfl, rfl, rfl, rfl, hr, hp, passes_of rfl, S.nd, fun _ _ => rfl⟩
  have b := body _ B ⟨congrArg Value.ref ec.symm, rfl, tb⟩ ws M Q3 h (L2.start N vs) H (Slots.start r N) m
  refine ⟨wSs _ (defBody st), wSs.pss, b.mono ?_ ?_ ?_ ?_⟩
  · rintro σ' H' ⟨_, M', t, _, m', M0, l, q⟩
    exact hq _ _ _ _ q t (m'.sub l) .non
  · rintro v H' ⟨u, M', t, m', rv, M0, l, q⟩
    exact hq _ _ _ _ q t (m'.sub l) rv
  · rintro σ' H' ⟨_, _, _, _, _, q⟩; exact q.elim
  · rintro σ' H' ⟨_, _, _, _, _, q⟩; exact q.elim
/-- the tables of these defs -/
def tabsK (K : PySem.W.Frag) (ns : List Str) : List (Addr × Str) := ns.map fun x => (tabP K x, lamQ x)
/-- what is handed in, where there are tables -/
def spTopT (T : List (Addr × Str)) : Sp3 := fun ws M Q => ∃ (w : VV) (ns : List Int), ws = [w] ∧ Lst M w (ns.map .int) ∧ NoBag M ∧ (∀ p ∈ T, M p.1 = some (.tab p.2)) ∧ ∀ M', Q (.bl true) M'
theorem look_nd {T : List (Addr × Str)} (nd : (T.map (·.1)).Nodup) {p : Addr × Str} (h : p ∈ T) : T.lookup p.1 = some p.2 := by
  induction T with
  | nil => cases h
  | cons q T ih =>
    obtain ⟨a, b⟩ := q
    simp only [List.map_cons, List.nodup_cons] at nd
    rw [List.lookup_cons]
    rcases List.mem_cons.mp h with e | h
    · subst e; simp
    · have : p.1 ≠ a := fun z => nd.1 (List.mem_map.mpr ⟨p, h, z⟩)
      rw [beq_false_of_ne this]
      exact ih nd.2 h
theorem look_in {T : List (Addr × Str)} {a : Addr} {q : Str} (h : T.lookup a = some q) : (a, q) ∈ T := by
  induction T with
  | nil => cases h
  | cons p T ih =>
    obtain ⟨b, c⟩ := p
    rw [List.lookup_cons] at h
    cases e : (a == b) with
    | true => rw [e] at h; cases h; rw [eq_of_beq e]; simp
    | false => rw [e] at h; exact List.mem_cons_of_mem _ (ih h)
theorem end_spT {K : PySem.W.Frag} {H : Hp} {a : Addr} {ns : List Int} {T : List (Addr × Str)} (nd : (T.map (·.1)).Nodup) (hT : ∀ p ∈ T, H p.1 = some (.tbl #[])) (hS : SqL K H a (ns.map V.int)) : toSp K (spTopT T) [.ref a] H (fun v _ => v = .bl true) fun _ _ _ => False := by
  let tm : Mp := fun b => (T.lookup b).map MO.tab
  have tmAt : ∀ p ∈ T, tm p.1 = some (.tab p.2) := fun p hp => by
    show (T.lookup p.1).map MO.tab = _
    rw [look_nd nd hp]; rfl
  have tmRo : ∀ M : Mp, ∀ b o, tm b = some o → Ro K M H b o := fun M b o e => by
    obtain ⟨q, hq, rfl⟩ := Option.map_eq_some_iff.mp e
    refine ⟨#[], hT _ (look_in hq), True.intro, fun pos cv hc => ?_⟩
    have hc : codeAmong pos [] = some cv := hc
    simp [codeAmong] at hc
  have tmNb : ∀ b, tm b ≠ some .bag := fun b e => by
    obtain ⟨q, hq, e⟩ := Option.map_eq_some_iff.mp e
    cases e
  have fin : ∀ (w : VV) (M : Mp), SimM K M H → Rv K H (.ref a) w → Lst M w (ns.map .int) → NoBag M → (∀ p ∈ T, M p.1 = some (.tab p.2)) → toSp K (spTopT T) [.ref a] H (fun v _ => v = .bl true) fun _ _ _ => False := fun w M m r hl nb ht =>
    ⟨[w], M, fun u _ => u = .bl true, m, .cons r .nil, ⟨w, ns, rfl, hl, nb, ht, fun _ => rfl⟩, fun u M' v H' q _ _ rv => by subst q; cases rv; rfl⟩
  rcases hS with (h | h) | h
  · refine fin (.ref a) (updM tm a (.lst (ns.map .int))) (fun b o e => ?_) (.ref a) (.ref updM_same) (fun b z => ?_) fun p hp => ?_
    · by_cases hb : b = a
      · subst hb; rw [updM_same] at e; cases e
        exact ⟨_, h, Rvs.of_ints⟩
      · rw [updM_ne hb] at e; exact tmRo _ b o e
    · by_cases hb : b = a
      · subst hb; rw [updM_same] at z; cases z
      · rw [updM_ne hb] at z; exact tmNb b z
    · rw [updM_ne (fun z => by have := hT p hp; rw [z, h] at this; cases this)]
      exact tmAt p hp
  · exact fin (.seq (ns.map .int)) tm (tmRo tm) (.seq (.inl h) Rvs.of_ints) (.seq _) tmNb tmAt
  · exact fin (.seq (ns.map .int)) tm (tmRo tm) (.seq (.inr h) Rvs.of_ints) (.seq _) tmNb tmAt
theorem end_ofT {E : Ev} {k : Nat} {x y : Str} {sp : Sp3} (D : E.df k x [y] sp) {fa : Addr} (hfa : E.mg x = some (.ref fa)) : ∃ fd : FuncData, FnOk E.P E.w E.K E.mg E.base E.CX k fa fd [y] (toSp E.K sp) ∧ ∃ oc od osl, E.K.lookup fa = some ⟨oc, od, .func fd, osl⟩ := by
  obtain ⟨f, fd, h1, h2, h3, h4, h5⟩ := D
  have e := hfa.symm.trans h1
  cases e
  exact ⟨fd, h4, h5⟩
theorem fd_of {E : Ev} {x : Str} {st : Stmt} {y : Str} (T : Tx E x st [y]) {fa : Addr} (hfa : E.mg x = some (.ref fa)) : ∃ fd : FuncData, (∀ (s : Shared) (u : Value), BindsTo s fd ⟨[u], []⟩ [(y, u)]) ∧ ∃ oc od osl, E.K.lookup fa = some ⟨oc, od, .func fd, osl⟩ := by
  obtain ⟨f, fd, F, h1, h2⟩ := T
  have e := hfa.symm.trans h1
  cases e
  obtain ⟨oc, od, dV, kV, doc, pm, an, cdv, ct, osl, rfl, lk, hcd, _, _⟩ := F.ex
  exact ⟨_, fun s u => h2 s [u] rfl, oc, od, osl, lk⟩
end G3

set_option Elab.async false
set_option linter.all false
set_option maxRecDepth 100000
set_option maxHeartbeats 4000000
/-! dicts by tuples: setdefault, items; tuples that the run lays -/
namespace G3
open PySem PySem.Spec L2 PyProof.Rows
section
variable {X : Cx} {pins : List (Addr × Obj)} {σ : L2.St} {H : Hp} {s : Shared} {a b : Addr} {A : Around} {Er Q : Value → Shared → Prop}
theorem setdT_run {kvs : List (List Key × V)} {k : List Key} {d : V} {r : Value} (I : Inv X pins σ H s) (e : H a = some (.dT kvs)) (eb : H b = some (.tup (k.map kV))) (rd : RelV d r) (hl : kvs.length < sizeLine) (hu : A.units + 1 < cLine)
    (q1 : ∀ v, valV kvs k = some v → ∀ w' s', Inv X pins σ H s' → RelV v w' → Q w' s') (q2 : valV kvs k = none → ∀ w' s', Inv X pins σ (upd H a (.dT (putK kvs k d))) s' → RelV d w' → Q w' s') :
    wpAny (model X.prog X.w) A (call (.builtin "dict.setdefault") [.ref a, .ref b, r]) Q Er s := by
  obtain ⟨z, nosys, xs, rel, dd⟩ := dt_of I.hok e
  have isD : s.TypeIs (.ref a) "dict" := dd.typeIs
  have hz : xs.length ≤ sizeLine := (Paired.length rel) ▸ z
  refine wpAny_call_entry PySem.F.slot_dict_setdefault isD PySem.F.entry_dict_setdefault ?_ (PySem.F.args_dict_setdefault_3 _ _ _)
  unfold Builtin.«dict.setdefault» Builtin.Dict.keyAndDefault
  refine wpAny_bind (wpAny_bind (wpAny_notOrdered_dict isD ?_))
  show wpAny _ _ (pure (a, Value.ref b, some r)) _ _ s
  refine wpAny_pure ?_
  show wpAny _ _ (if (a == sysModules) = true then _ else (dictSetDefault a (.ref b) r >>= _)) _ _ s
  rw [if_neg (fun c => by rw [nosys] at c; cases c)]
  refine wpAny_bind (wpAny_dictSetDefault_heap (hsz := hz) (tupleKind_room_in1 hu) (key_of I.hok eb) dd (fun p hp => ?_) fun hn h' dd' sb => ?_)
  · have q := rel.val k
    rw [hp] at q
    cases q0 : valV kvs k with
    | none => rw [q0] at q; exact (show False from q).elim
    | some v0 => rw [q0] at q; exact wpAny_pure ⟨_, rfl, q1 v0 q0 _ _ (I.tok _) q⟩
  · have q := rel.val k
    rw [hn] at q
    cases q0 : valV kvs k with
    | some v0 => rw [q0] at q; exact (show False from q).elim
    | none =>
      have hl2 : (putK kvs k d).length ≤ sizeLine := Nat.le_trans (length_putK kvs k d) hl
      obtain ⟨o, es, ep, hq, h2, h3, h4, _, h5⟩ := dd'
      refine wpAny_pure ⟨_, rfl, q2 q0 _ _ (d_write I (by rw [e]; exact True.intro) sb ⟨o, hq⟩ ⟨hl2, nosys, _, (rel.put k eb rd).keeps fun c ys ec => ?_, o, es, ep, hq, h2, h3, h4, h5⟩) rd⟩
      rw [upd_ne (ne_of ec e (fun z => nomatch z))]; exact ec
/-- a locked dict by tuples, read raw -/
theorem frzT_raw {o : Obj} {kvs : List (List Key × V)} (I : Inv X pins σ H s) (h : H a = some (.frz o (.dT kvs))) : (a == sysModules) = false ∧ s.heap.get? a = some o ∧ o.ExactDict ∧ ∃ (es : Array DictEntry) (ep : Nat), o.data = .dict es ep ∧ es.size = kvs.length ∧ es.size ≤ sizeLine ∧
    ∀ (i : Nat) (hi : i < es.size), ∃ k v q, kvs[i]? = some (k, v) ∧ es[i].key = .ref q ∧ H q = some (.tup (k.map kV)) ∧ RelV v es[i].val := by
  obtain ⟨g0, z, nosys, xs, pr, o2, es, ep, g1, ex, dat, en, _⟩ := I.hok a _ h
  rw [g0] at g1; cases g1
  have l1 : es.size = xs.length := size_of_entries en
  have l2 : kvs.length = xs.length := Paired.length pr
  refine ⟨nosys, g0, ex, es, ep, dat, l1.trans l2.symm, by rw [l1, ← l2]; exact z, fun i hi => ?_⟩
  obtain ⟨⟨k, v⟩, hkv⟩ : ∃ p, kvs[i]? = some p := ⟨_, List.getElem?_eq_getElem (by omega)⟩
  obtain ⟨y, hy, e1, e2, e3⟩ := paired_get pr hkv
  have q := entry_at en i
  rw [hy, Array.getElem?_eq_getElem hi] at q
  have q' := Option.some.inj q
  exact ⟨k, v, y.2.1, hkv, by rw [q']; rfl, e2, by rw [q']; exact e3⟩
def ItiT (d : Addr) (o : Obj) (kvs : List (List Key × V)) : It :=
  ⟨fun i H => H d = some (.frz o (.dT kvs)) ∧ i < kvs.length, fun i H x H' => ∃ T k v q, kvs[i]? = some (k, v) ∧ x = .ref T ∧ H T = none ∧ H q = some (.tup (k.map kV)) ∧ H' = upd H T (.tup [.ref q, v]), fun i H => H d = some (.frz o (.dT kvs)) ∧ kvs.length ≤ i⟩
theorem turn_itemsT {P : Program} {w : World} {K : PySem.W.Frag} {d it : Addr} {o : Obj} {es : Array DictEntry} {ep : Nat} {kvs : List (List Key × V)} {elts : List Expr} {kk : Nat} {tpos : Pos} (hod : o.data = .dict es ep) (hes : es.size = kvs.length) :
    Turn P w K (.Tuple elts kk tpos) (ItiT d o kvs) [it] it (fun i h => ∃ ok ov, IsItemIter h it d i es.size ep ok ov) := by
  refine ⟨by simp, fun i h st b hb => ?_, fun i h h' st k => ?_, ?_, ?_, fun A i s Q E st h => ?_⟩
  · obtain ⟨ok, ov, e⟩ := st
    obtain rfl : b = it := by simpa using hb
    exact ⟨_, e, fun v z => nomatch z⟩
  · obtain ⟨ok, ov, e⟩ := st
    exact ⟨ok, ov, k it (by simp) _ e⟩
  · intro X hP hw hK hc i pins s σ H E I hf st hg
    subst hP; subst hw; subst hK
    obtain ⟨hd, hi⟩ := hg
    obtain ⟨_, g0, ex, es2, ep2, dat, l1, _, ent⟩ := frzT_raw I hd
    obtain ⟨rfl, rfl⟩ := dict_ep hod dat
    have hi2 : i < es2.size := by omega
    obtain ⟨k, v, q, hkv, hkey, hq, rv⟩ := ent i hi2
    obtain ⟨ok, ov, he⟩ := st
    have hlt : it < s.heap.objs.size := Heap.lt_size he
    refine wpAny_pyNext_items_item_raw he ⟨o, g0, ex, hod⟩ hi2 fun h' ho hT hz hk => ⟨_, rfl, ?_⟩
    refine wpAny_letOwnedTupleGo_items (s := { s with heap := h' }) ho fun h2 he' sb => ?_
    let T := s.heap.objs.size
    have hT2 : h2.get? T = some { cls := .type "tuple", data := .seq #[es2[i].key, es2[i].val] } := (sb.2 _ (Nat.ne_of_gt hlt)).trans hT
    have nw : ObjOk X.prog X.w (upd H T (.tup [.ref q, v])) h2 T (.tup [.ref q, v]) := ⟨by show 2 ≤ sizeLine; decide, [es2[i].key, es2[i].val], .cons hkey (.cons rv .nil), _, hT2, rfl, _, rfl⟩
    have I1 := I.turnedNew (t' := s.toks) (ch := [it]) (fun b ob hb e => (sb.2 b (by simpa using hb)).trans (hk b ob (by simpa using hb) e)) hf (Nat.le_refl _) nw
    refine ⟨.ref T, _, I1, rfl, ⟨T, k, v, q, hkv, rfl, I.hok.fresh (Nat.le_refl _), hq, rfl⟩, ⟨_, _, he'⟩, fun b hb => ?_⟩
    obtain rfl : b = it := by simpa using hb
    rw [upd_ne (Nat.ne_of_lt hlt)]
    exact (hf b (by simp)).1
  · intro X hP hw hK hc i pins s σ H E I hf st hg
    subst hP; subst hw; subst hK
    obtain ⟨hd, hi⟩ := hg
    obtain ⟨f0, f1, f2, f3, f4, f5⟩ := hf it (by simp)
    obtain ⟨_, g0, ex, es2, ep2, dat, l1, _, _⟩ := frzT_raw I hd
    obtain ⟨rfl, rfl⟩ := dict_ep hod dat
    obtain ⟨ok, ov, he⟩ := st
    exact wpAny_pyNext_items_end_raw (I.ok.hd hc) he ⟨o, g0, ex, hod⟩ (by omega) fun h' eb => ⟨rfl, I.turned (t' := s.toks) (fun b ob hb e => eb b ob hb e) f0 f1 f3 f4 f5⟩
  · obtain ⟨_, _, e⟩ := st
    exact PySem.W.kcp_self e h
def iItemsT (td : TE) : TI := fun σ H R => td σ H fun x H1 => ∃ d o kvs, x = .ref d ∧ H1 d = some (.frz o (.dT kvs)) ∧ R (ItiT d o kvs) H1
theorem pi_itemsT {e : Expr} {td : TE} {apos cpos : Pos} {elts : List Expr} {kk : Nat} {tpos : Pos} (he : PE X e td) (hbase : attributeBase e "items" X.env (eval e X.env) = eval e X.env := by rfl) (hline : (apos.endLine == cpos.line) = true := by rfl) :
    PI X (.Tuple elts kk tpos) (.Call (.Attribute e "items" apos) [] [] cpos) (iItemsT td) := by
  refine ⟨fun pins s σ H R I h => wpAny_Call_method (T := "dict") (id := "dict.items") hbase rfl hline PySem.F.plainAttrs_dict PySem.F.slot_dict_items PySem.F.type_dict_items (thn (he.run pins s σ H _ I h) fun u s1 ⟨x, H1, I1, rx, d, o, kvs, ex, hd, q⟩ => ?_)⟩
  subst ex
  obtain rfl : u = Value.ref d := rx
  obtain ⟨nosys, g0, exd, es, ep, dat, l1, _, _⟩ := frzT_raw I1 hd
  have raw : s1.heap.DictRaw d es ep := ⟨o, g0, exd, dat⟩
  refine ⟨raw.typeIs, fun c ec => by cases ec; exact ⟨o, g0, exd.2.1⟩, ?_⟩
  let vw : Obj := { cls := .type "dict_items", data := .fields #[.ref d] }
  have I2 : Inv X pins σ H1 { s1 with heap := s1.heap.push vw } := I1.kept (t' := s1.toks) fun b ob q => Heap.get?_push_of_some _ q
  have fin : wpAny (model X.prog X.w) X.A (pyIter (.ref s1.heap.objs.size)) (PIE X pins σ (.Tuple elts kk tpos) R) X.xe { s1 with heap := s1.heap.push vw } :=
    wpAny_pyIter_items_raw (d := d) ⟨vw, Heap.get?_push_size _ rfl, rfl, rfl⟩ (raw.at fun o e => Heap.get?_push_of_some _ e) (pi_one (tk := s1.toks) I2 _ (turn_itemsT dat l1) ⟨.none, .none, Heap.get?_push_size _ rfl⟩ q)
  show wpAny _ _ (callWith cpos (.builtin "dict.items") [.ref d] [] []) _ X.xe s1
  exact method_meetsIn PySem.F.slot_dict_items PySem.F.entry_dict_items rfl (PySem.evalArgs_none ⟨rfl, raw.typeIs, PySem.F.args_dict_items_1 _, _, meets_dict_items_raw d nosys, ⟨es, ep, raw⟩, fin⟩)
end
section
variable {X : Cx} {σ : St3} {M : Mp} {Q : VQ} {e o f tg : Expr} {R : It3 → Mp → Prop}
/-- d.items() of a dict by tuples, locked -/
def itItmT (p : Addr) (L : MO) (kvs : List (List Key × VV)) : It3 := ⟨kvs.length, fun i v => ∃ k w, kvs[i]? = some (k, w) ∧ v = .tup [tW k, w], fun M => M p = some L⟩
theorem wi_itemsLT {apos cpos tpos : Pos} {elts : List Expr} {kk : Nat} (h : WE X e σ M fun u M1 => ∃ p o xs kvs, u = .ref p ∧ M1 p = some (.lkT o xs kvs) ∧ R (itItmT p (.lkT o xs kvs) kvs) M1) (hbase : attributeBase e "items" X.env (eval e X.env) = eval e X.env := by rfl) (hline : (apos.endLine == cpos.line) = true := by rfl) :
    WI X (.Tuple elts kk tpos) (.Call (.Attribute e "items" apos) [] [] cpos) σ M R := fun σ' H s m =>
  wI.of (pi_itemsT wE.pe hbase hline) (h.run s m fun v H1 u M1 t1 m1 r1 s1 ⟨p, o, xs, kvs, hu, mp, q⟩ => by
    subst hu; cases r1
    obtain ⟨h1, h3⟩ := m1 p _ mp
    refine ⟨p, o, xs, rfl, h1, _, M1, t1, m1, fun i M2 H2 t2 m2 hh hi => ?_, q⟩
    obtain ⟨q1, q3⟩ := m2 p _ (show M2 p = _ from hh)
    have hlen := q3.len
    change i ≤ kvs.length at hi
    by_cases hlt : i < kvs.length
    · refine .inr ⟨hlt, ⟨q1, by omega⟩, fun y H' hy => ?_⟩
      obtain ⟨T, k, v, qa, hk, rfl, hT, hq, rfl⟩ := hy
      obtain ⟨w, hw, rw⟩ := q3.at hk
      have tT : TM H2 (upd H2 T (.tup [.ref qa, v])) := TM.fresh hT
      exact ⟨_, ⟨k, w, hw, rfl⟩, tT, m2.alloc hT, .tup (SqT.of upd_same) (.cons (.ftp (tT.tup _ _ hq) (rvs_kW k)) (.cons (Rv.mono tT _ _ rw) .nil))⟩
    · exact .inl ⟨by show i = kvs.length; omega, q1, by omega⟩)
theorem itm_itmT {M : Mp} {a : Addr} {L : MO} {kvs : List (List Key × VV)} (hl : M a = some L) (hz : kvs.length ≤ sizeLine) : Itm (itItmT a L kvs) M kvs (fun z y => y = .tup [tW z.1, z.2]) where
  n := rfl
  item := fun j u hj ⟨k, w, h1, h2⟩ => ⟨(k, w), h1, h2⟩
  hold := fun M' l => l _ _ hl
  size := hz
/-- d.setdefault(e, f) of a dict by tuples -/
theorem we_setdT {N : List Str} {sc : Scope} {fl : Bool} {k : Nat} {P : Program} {w : World} {K : PySem.W.Frag} {mg : Str → Option Value} {base : Heap} {CX : CXT} (B : Bd P w K mg base CX N sc fl k X) {apos cpos : Pos} (h : WE X o σ M fun u M1 => ∃ a kv0, u = .ref a ∧ M1 a = some (.dT kv0) ∧ WE X e σ M1 fun y M2 => WE X f σ M2 fun z M3 => ∃ kvs k, M3 a = some (.dT kvs) ∧ y = tW k ∧ kvs.length < sizeLine ∧
      (∀ w, lookW kvs k = some w → Q w M3) ∧ (lookW kvs k = none → Q z (updM M3 a (.dT (putW kvs k z)))))
    (m1 : attributeBase o "setdefault" X.env (eval o X.env) = eval o X.env := by rfl)
    (m2 : ((backTo cpos (starEach [e, f] X.env)).all (fun x => !x.1) && (backToKw cpos (keywordEach [] X.env)).all (fun x => x.1.isSome)
      && decide (([e, f] : List Expr).length + ([] : List Keyword).length + (if ([] : List Keyword).isEmpty then 0 else 1) < 30)) = true := by rfl)
    (m3 : (apos.endLine == cpos.line) = true := by rfl) (m4 : backTo cpos (starEach [e, f] X.env) = [(false, eval e X.env), (false, eval f X.env)] := by rfl) :
    WE X (.Call (.Attribute o "setdefault" apos) [e, f] [] cpos) σ M Q := fun σ' H s m pins st I => by
  refine wpAny_Call_method m1 m2 m3 PySem.F.plainAttrs_dict PySem.F.slot_dict_setdefault PySem.F.type_dict_setdefault (thn (h σ' H s m pins st I) fun u s1 ⟨x, H1, I1, rx, u', M1, t1, mm1, r1, a, kv0, eu, ma, q1⟩ => ?_)
  subst eu; cases r1
  obtain rfl : u = Value.ref a := rx
  obtain ⟨g0, e0, _⟩ := mm1 a _ ma
  obtain ⟨_, _, xs0, _, dd0⟩ := dt_of I1.hok e0
  refine ⟨dd0.typeIs, fun c ec => by cases ec; obtain ⟨ob, _, _, k1, k2, _⟩ := dd0; exact ⟨ob, k1, k2.2.1⟩, ?_⟩
  rw [m4]
  have s1' := s.mono t1
  refine Calls.callWith_builtin rfl (Calls.evalArgs_plain (Calls.spliced_cons (thn (q1 σ' H1 s1' mm1 pins s1 I1) fun iv s2 ⟨x2, H2, I2, rx2, y, M2, t2, mm2, r2, q2⟩ =>
    Calls.spliced_cons (thn (q2 σ' H2 (s1'.mono t2) mm2 pins s2 I2) fun fv s3 ⟨x3, H3, I3, rx3, z, M3, t3, mm3, r3, kvs, kk, e3, ey, hl, q3, q4⟩ => Calls.spliced_nil ?_))))
  subst ey
  obtain ⟨b, rfl, eb⟩ := (Rv.mono t3 _ _ r2).tkey
  cases (show iv = Value.ref b from rx2)
  obtain ⟨gs, e4, rg⟩ := mm3 a _ e3
  have ru := B.room.un
  refine setdT_run I3 e4 eb rx3 (by rw [rg.len]; exact hl) (by omega) (fun v hv w' s4 I4 rw' => ?_) fun hn w' s4 I4 rw' => ?_
  · cases hw : lookW kvs kk with
    | none => rw [(rg.val kk).2 hw] at hv; cases hv
    | some w0 =>
      obtain ⟨v', e', rw2⟩ := (rg.val kk).1 w0 hw
      rw [hv] at e'; cases e'
      exact ⟨v, H3, I4, rw', w0, M3, (t1.trans t2).trans t3, mm3, rw2, q3 w0 hw⟩
  · have hw : lookW kvs kk = none := by
      cases hw : lookW kvs kk with
      | none => rfl
      | some w0 =>
        obtain ⟨v', e', _⟩ := (rg.val kk).1 w0 hw
        rw [hn] at e'; cases e'
    have t := TM.dT (ho := .dT (putK gs kk x3)) e4
    exact ⟨x3, _, I4, rw', z, _, ((t1.trans t2).trans t3).trans t, mm3.put (p := a) (o := .dT (putW kvs kk z)) t (.inr ⟨_, e3⟩) (by intro z; cases z) ⟨_, upd_same, (rg.put kk r3).mono t⟩, Rv.mono t _ _ r3, q4 hw⟩
/-! tuples that the run lays, as such -/
theorem we_tupF {es : List Expr} {x1} {pos : Pos} (h : WA X es σ M fun xs M1 => xs.length ≤ sizeLine ∧ Q (.ftp xs) M1) : WE X (.Tuple es x1 pos) σ M Q := fun σ' H s m =>
  wE.of (pe_tup wA.pa) (h.run s m fun v H1 x M1 t1 m1 r1 s1 ⟨hl, q1⟩ => ⟨by rw [r1.length]; exact hl, fun p hp => ⟨.ftp x, M1, t1.trans (TM.fresh hp), m1.alloc hp, .ftp upd_same (Rvs.mono (TM.fresh hp) _ _ r1), q1⟩⟩)
theorem Rv.asTup {K : PySem.W.Frag} {H : Hp} {v : V} {ws : List VV} (r : Rv K H v (.ftp ws)) : Rv K H v (.tup ws) := by
  cases r with
  | ftp h1 h2 => exact .tup (SqT.of h1) h2
theorem oi_ftp {ws : List VV} {i : Int} {w : VV} (h : atI ws i = some w) (q : Q w M) : OI X (.ftp ws) (.int i) M Q := fun H v u m r1 r2 => oi_tup h q H v u m r1.asTup r2
theorem we_asTup {e : Expr} {ws : List VV} (h : WE X e σ M fun u M1 => u = .ftp ws ∧ Q (.tup ws) M1) : WE X e σ M Q := fun σ' H s m => (h σ' H s m).mono fun v H1 ⟨x, M1, t, m1, r, ex, q⟩ => by
  subst ex; exact ⟨_, M1, t, m1, r.asTup, q⟩
theorem wg_asTup {R : St3 → Mp → Prop} {ws : List VV} (h : WG X tg (.tup ws) σ M R) : WG X tg (.ftp ws) σ M R := fun σ' H v s m r => h σ' H v s m r.asTup
/-- a dict by tuples while a loop walks it -/
def lkEnT (p : Addr) (kvs : List (List Key × VV)) (L : MO) (D : En) : En where
  nx := fun σ M => M p = some L ∧ D.nx σ (updM M p (.dT kvs))
  rt := fun w M => M p = some L ∧ D.rt w (updM M p (.dT kvs))
  bk := fun σ M => M p = some L ∧ D.bk σ (updM M p (.dT kvs))
  ct := fun σ M => M p = some L ∧ D.ct σ (updM M p (.dT kvs))
end
end G3

set_option Elab.async false
set_option linter.all false
set_option maxRecDepth 100000
set_option maxHeartbeats 4000000
/-! a dict by tuples locked by a loop; xs.index(x) of data -/
namespace G3
open PySem PySem.Spec L2 PyProof.Rows
section
variable {X : Cx} {σ : St3} {M : Mp} {Q : VQ} {a b : Expr} {D : En}
theorem ws_lockT {st : Stmt} {p : Addr} {kvs : List (List Key × VV)} (e : M p = some (.dT kvs)) (h : ∀ o xs, WS X st σ (updM M p (.lkT o xs kvs)) (lkEnT p kvs (.lkT o xs kvs) D)) : WS X st σ M D := fun σ' H s m pins t I => by
  obtain ⟨xs, hx, hh⟩ := lock_inT m e
  refine (ps_lock (wS.ps (X := X) (e := st))).run pins t σ' H _ I ⟨p, _, hx, trivial, fun od => ?_⟩
  obtain ⟨t1, m1⟩ := hh od
  have back : ∀ {H2 : Hp} {M3 : Mp}, SimM X.K M3 H2 → M3 p = some (.lkT od xs kvs) → H2 p = some (.frz od (.dT xs)) ∧ TM H2 (upd H2 p (.dT xs)) ∧ SimM X.K (updM M3 p (.dT kvs)) (upd H2 p (.dT xs)) := fun m3 e3 => lock_outT m3 e3
  refine (h od xs σ' _ (s.mono t1) m1).mono ?_ ?_ ?_ ?_
  · rintro σ2 H2 ⟨σ3, M3, t3, s3, m3, e3, q⟩
    obtain ⟨g1, g2, g3⟩ := back m3 e3
    exact ⟨g1, σ3, _, (t1.trans t3).trans g2, s3.mono g2, g3, q⟩
  · rintro v H2 ⟨w3, M3, t3, m3, r3, e3, q⟩
    obtain ⟨g1, g2, g3⟩ := back m3 e3
    exact ⟨g1, w3, _, (t1.trans t3).trans g2, g3, Rv.mono g2 _ _ r3, q⟩
  · rintro σ2 H2 ⟨σ3, M3, t3, s3, m3, e3, q⟩
    obtain ⟨g1, g2, g3⟩ := back m3 e3
    exact ⟨g1, σ3, _, (t1.trans t3).trans g2, s3.mono g2, g3, q⟩
  · rintro σ2 H2 ⟨σ3, M3, t3, s3, m3, e3, q⟩
    obtain ⟨g1, g2, g3⟩ := back m3 e3
    exact ⟨g1, σ3, _, (t1.trans t3).trans g2, s3.mono g2, g3, q⟩
/-- xs.index(x), x there -/
theorem we_lindex {α : Type} [DecidableEq α] [PySem.W.Datum α] (hu : X.A.units + 65 < cLine) {apos cpos : Pos} (h : WE X a σ M fun l M1 => ∃ p ws0, l = .ref p ∧ M1 p = some (.lst ws0) ∧ WE X b σ M1 fun y M2 => ∃ (xs : List α) (x : α) (j : Nat), DW M2 y (PySem.W.Datum.toD x) ∧ DW M2 (.ref p) (PySem.W.Datum.toD xs) ∧
      SeqAt.shaped (PySem.W.Datum.toD x) = true ∧ SeqAt.shaped (PySem.W.Datum.toD xs) = true ∧ xs[j]? = some x ∧ (∀ m, m < j → xs[m]? ≠ some x) ∧ Q (.int (j : Nat)) M2)
    (hbase : attributeBase a "index" X.env (eval a X.env) = eval a X.env := by rfl)
    (hfew : ((backTo cpos (starEach [b] X.env)).all (fun x => !x.1) && (backToKw cpos (keywordEach [] X.env)).all (fun x => x.1.isSome)
      && decide (([b] : List Expr).length + ([] : List Keyword).length + (if ([] : List Keyword).isEmpty then 0 else 1) < 30)) = true := by rfl)
    (hline : (apos.endLine == cpos.line) = true := by rfl) (hst : starEach [b] X.env = (false, eval b X.env) :: starEach [] X.env := by rfl) (hplain : (backTo cpos (starEach [] X.env)).any (·.1) = false := by rfl) :
    WE X (.Call (.Attribute a "index" apos) [b] [] cpos) σ M Q := fun σ' H s m =>
  wE.of (pe_bm (e := b) (es := []) PySem.F.plainAttrs_list PySem.F.slot_list_index PySem.F.type_list_index (mt_indexD hu) wE.pe (pa_cons wE.pe pa_nil hst) hbase hfew hline hst hplain)
    (h.run s m fun v H1 l M1 t1 m1 r1 s1 ⟨p, ws0, e1, e2, q1⟩ => by
      subst e1; cases r1
      obtain ⟨vs0, h0, _⟩ := m1 _ _ e2
      refine ⟨.inl ⟨rfl, vs0, SqL.of h0⟩, q1.run s1 m1 fun u H2 y M2 t2 m2 r2 s2 ⟨xs, x, j, d1, d2, sh1, sh2, hj, hno, q⟩ => ?_⟩
      refine ⟨p, u, PySem.W.Datum.toD x, xs.map PySem.W.Datum.toD, j, PySem.W.Datum.toD x, rfl, rfl, d2.dp m2 _ _ _ (.ref p), d1.dp m2 _ _ _ r2, sh2, sh1, by rw [List.getElem?_map, hj]; rfl, by rw [PySem.W.Datum.eqv]; exact decide_eq_true rfl, fun mm z hm hz => ?_, .int _, M2, t1.trans t2, m2, .int _, q⟩
      rw [List.getElem?_map] at hz
      obtain ⟨x2, hx2, rfl⟩ := Option.map_eq_some_iff.mp hz
      rw [PySem.W.Datum.eqv]
      exact decide_eq_false fun e => hno mm hm (by rw [hx2, e]))
end
end G3

set_option Elab.async false
set_option linter.all false
set_option maxRecDepth 100000
set_option maxHeartbeats 4000000
/-! names lettered, in plain Lean -/
namespace G3
open PySem PySem.Spec L2 PySem.W
abbrev Sit := Pt × Int
abbrev vpf (p : Pt) : VV := .ftp [.int p.1, .int p.2]
abbrev vsi (q : Sit) : VV := .tup [vpf q.1, .int q.2]
abbrev Bx := Int × Int × Int × Int
abbrev vbx (b : Bx) : VV := .tup [.int b.1, .int b.2.1, .int b.2.2.1, .int b.2.2.2]
abbrev ptK (p : Pt) : List Key := [.inl p.1, .inl p.2]
def wideF (n : Str) (t : Int) : Int := n.length * t
def sideF (p : Pt) (n : Str) (t : Int) (k : Nat) : Bx :=
  (p.1 - (if k % 2 = 1 then wideF n t else 0), p.2 - (if 2 ≤ k then t else 0), p.1 - (if k % 2 = 1 then wideF n t else 0) + wideF n t, p.2 - (if 2 ≤ k then t else 0) + t)
def sideS : Nat → Str
  | 0 => "ne"
  | 1 => "nw"
  | 2 => "se"
  | _ => "sw"
def inB (p : Pt) (b : Bx) : Bool := (decide (b.1 ≤ p.1) && decide (p.1 ≤ b.2.2.1)) && (decide (b.2.1 ≤ p.2) && decide (p.2 ≤ b.2.2.2))
def meetB (a b : Bx) : Bool := decide (max a.1 b.1 ≤ min a.2.2.1 b.2.2.1) && decide (max a.2.1 b.2.1 ≤ min a.2.2.2 b.2.2.2)
def PB (b : Bx) : Prop := b.1 ≤ b.2.2.1 ∧ b.2.1 ≤ b.2.2.2
theorem meetB_is {a b : Bx} (ha : PB a) (hb : PB b) : meetB a b = ((decide (a.1 ≤ b.2.2.1) && decide (b.1 ≤ a.2.2.1)) && (decide (a.2.1 ≤ b.2.2.2) && decide (b.2.1 ≤ a.2.2.2))) := by
  obtain ⟨h1, h2⟩ := ha
  obtain ⟨h3, h4⟩ := hb
  unfold meetB
  rw [← Bool.decide_and, ← Bool.decide_and, ← Bool.decide_and, ← Bool.decide_and]
  exact decide_eq_decide.mpr (by omega)
theorem wide_nn {n : Str} {t : Int} (h : 0 ≤ t) : 0 ≤ wideF n t := Int.mul_nonneg (Int.natCast_nonneg _) h
theorem sideF_pb {p : Pt} {n : Str} {t : Int} {k : Nat} (h : 0 ≤ t) : PB (sideF p n t k) := by
  have := wide_nn (n := n) h
  unfold PB sideF
  constructor <;> (simp only; omega)
abbrev Bar := Str × Str
def vbar : Option Bar → VV
  | none => .non
  | some q => .tup [.str q.1, .str q.2]
theorem dw_vbar {M : Mp} (b : Option Bar) : DW M (vbar b) (Datum.toD b) := by
  cases b with
  | none => exact .non
  | some q => exact .tup (.cons (.str _) (.cons (.str _) .nil))
def barF (n : Str) (b : Bx) (st : List (Str × Pt)) (bx : List (Str × Bx)) : Option Bar :=
  match st.find? (fun z => decide (z.1 ≠ n) && inB z.2 b) with
  | some z => some ("site", z.1)
  | none => (bx.find? fun z => meetB b z.2).map fun z => ("name", z.1)
inductive Lt where
  | under (o : Str) | laid (k : Nat) (b : Bx) | barred (bs : List (Option Bar))
def isBar : Lt → Bool
  | .barred _ => true
  | _ => false
/-- what is told of a name; its list of bars stands at p -/
def ltv (p : Addr) : Lt → VV
  | .under o => .tup [.str "under", .str o]
  | .laid k b => .tup [.str "laid", .str (sideS k), vbx b]
  | .barred _ => .tup [.str "barred", .ref p]
def barsF (st : List (Str × Pt)) (p : Pt) (t : Int) (n : Str) (bx : List (Str × Bx)) : List (Option Bar) := [0, 1, 2, 3].map fun k => barF n (sideF p n t k) st bx
def oneF (st : List (Str × Pt)) (p : Pt) (t : Int) (n : Str) (bx : List (Str × Bx)) : Lt × List (Str × Bx) :=
  match (barsF st p t n bx).findIdx? (fun b => b.isNone) with
  | some k => (.laid k (sideF p n t k), bx ++ [(n, sideF p n t k)])
  | none => (.barred (barsF st p t n bx), bx)
def stepS (pr : Str → Pt) (acc : List (Str × Pt)) (n : Str) : List (Str × Pt) := if (acc.any fun z => decide (z.2 = pr n)) = true then acc else acc ++ [(n, pr n)]
def standF (pr : Str → Pt) (ns : List Str) : List (Str × Pt) := ns.foldl (stepS pr) []
def headAt (st : List (Str × Pt)) (p : Pt) : Option Str := (st.find? fun z => decide (z.2 = p)).map (·.1)
def boxesF (st : List (Str × Pt)) (pr : Str → Pt) (t : Int) (S : List Str) : List (Str × Bx) := S.foldl (fun bx n => (oneF st (pr n) t n bx).2) []
def isSt (pr : Str → Pt) (ns : List Str) (n : Str) : Bool := decide (headAt (standF pr ns) (pr n) = some n)
def ltOf (pr : Str → Pt) (t : Int) (ns : List Str) (n : Str) : Lt :=
  if isSt pr ns n = true then (oneF (standF pr ns) (pr n) t n (boxesF (standF pr ns) pr t ((ns.filter (isSt pr ns)).takeWhile fun m => decide (m ≠ n)))).1
  else .under ((headAt (standF pr ns) (pr n)).getD n)
/-! laws of these -/
theorem stepS_pre (pr : Str → Pt) (acc : List (Str × Pt)) (n : Str) : ∃ more, stepS pr acc n = acc ++ more := by
  unfold stepS
  split
  · exact ⟨[], by simp⟩
  · exact ⟨_, rfl⟩
theorem foldS_pre (pr : Str → Pt) : ∀ (ns : List Str) (acc : List (Str × Pt)), ∃ more, ns.foldl (stepS pr) acc = acc ++ more
  | [], acc => ⟨[], by simp⟩
  | n :: ns, acc => by
    obtain ⟨m1, e1⟩ := stepS_pre pr acc n
    obtain ⟨m2, e2⟩ := foldS_pre pr ns (stepS pr acc n)
    exact ⟨m1 ++ m2, by rw [List.foldl_cons, e2, e1, List.append_assoc]⟩
theorem headAt_app {a b : List (Str × Pt)} {p : Pt} {h : Str} (e : headAt a p = some h) : headAt (a ++ b) p = some h := by
  unfold headAt at e ⊢
  obtain ⟨z, hz, rfl⟩ := Option.map_eq_some_iff.mp e
  rw [List.find?_append, hz]
  rfl
theorem headAt_none {a : List (Str × Pt)} {p : Pt} : headAt a p = none ↔ (a.any fun z => decide (z.2 = p)) = false := by
  unfold headAt
  rw [Option.map_eq_none_iff, List.find?_eq_none, List.any_eq_false]
theorem standF_take (pr : Str → Pt) (ns : List Str) (i : Nat) : ∃ more, standF pr ns = standF pr (ns.take i) ++ more := by
  unfold standF
  have := foldS_pre pr (ns.drop i) ((ns.take i).foldl (stepS pr) [])
  rw [← List.foldl_append, List.take_append_drop] at this
  exact this
theorem standF_snoc (pr : Str → Pt) (ns : List Str) (n : Str) : standF pr (ns ++ [n]) = stepS pr (standF pr ns) n := by
  unfold standF
  rw [List.foldl_append]; rfl
/-- what is known of those that stand -/
structure StOk (pr : Str → Pt) (st : List (Str × Pt)) (ns : List Str) : Prop where
  v : ∀ z ∈ st, z.2 = pr z.1
  m : ∀ z ∈ st, z.1 ∈ ns
  d : (st.map (·.1)).Nodup
theorem StOk.snoc {pr : Str → Pt} {st : List (Str × Pt)} {ns : List Str} (h : StOk pr st ns) {n : Str} (hn : n ∉ ns) : StOk pr (stepS pr st n) (ns ++ [n]) := by
  unfold stepS
  split
  · exact ⟨h.v, fun z hz => List.mem_append_left _ (h.m z hz), h.d⟩
  · refine ⟨fun z hz => ?_, fun z hz => ?_, ?_⟩
    · rcases List.mem_append.mp hz with hz | hz
      · exact h.v z hz
      · simp at hz; subst hz; rfl
    · rcases List.mem_append.mp hz with hz | hz
      · exact List.mem_append_left _ (h.m z hz)
      · simp at hz; subst hz; simp
    · rw [List.map_append, List.nodup_append]
      refine ⟨h.d, by simp, fun x hx y hy e => ?_⟩
      simp at hy
      subst hy
      obtain ⟨z, hz, rfl⟩ := List.mem_map.mp hx
      exact hn (e ▸ h.m z hz)
theorem stand_ok (pr : Str → Pt) {ns : List Str} (hn : ns.Nodup) : ∀ i, i ≤ ns.length → StOk pr (standF pr (ns.take i)) (ns.take i)
  | 0, _ => ⟨by simp [standF], by simp [standF], by simp [standF]⟩
  | i + 1, hi => by
    have ih := stand_ok pr hn i (by omega)
    have hl : i < ns.length := by omega
    have tk : ns.take (i + 1) = ns.take i ++ [ns[i]] := by rw [List.take_add_one, List.getElem?_eq_getElem hl]; rfl
    rw [tk, standF_snoc]
    refine ih.snoc fun h => ?_
    have : (ns.take i ++ [ns[i]]).Nodup := by rw [← tk]; exact hn.sublist (List.take_sublist _ _)
    rw [List.nodup_append] at this
    exact this.2.2 _ h _ (by simp) rfl
theorem not_in_take {ns : List Str} (hn : ns.Nodup) {i : Nat} {n : Str} (h : ns[i]? = some n) : n ∉ ns.take i := fun hm => by
  obtain ⟨j, hj, e⟩ := List.mem_iff_getElem.mp hm
  rw [List.length_take] at hj
  rw [List.getElem_take] at e
  have hl := (List.getElem?_eq_some_iff.mp h).1
  have e2 : ns[j]? = ns[i]? := by rw [h, List.getElem?_eq_getElem (by omega), e]
  have := (List.getElem?_inj (by omega : j < ns.length) hn).mp e2
  omega
/-- whether one stands, told when it is come to -/
theorem stand_at (pr : Str → Pt) {ns : List Str} (hn : ns.Nodup) {i : Nat} {n : Str} (h : ns[i]? = some n) :
    (headAt (standF pr (ns.take i)) (pr n) = none → isSt pr ns n = true ∧ standF pr (ns.take (i + 1)) = standF pr (ns.take i) ++ [(n, pr n)]) ∧
    (∀ o, headAt (standF pr (ns.take i)) (pr n) = some o → isSt pr ns n = false ∧ headAt (standF pr ns) (pr n) = some o ∧ standF pr (ns.take (i + 1)) = standF pr (ns.take i)) := by
  have hl := (List.getElem?_eq_some_iff.mp h).1
  have tk : ns.take (i + 1) = ns.take i ++ [n] := by rw [List.take_add_one, h]; rfl
  have ok := stand_ok pr hn i (by omega)
  constructor
  · intro e
    have ea := headAt_none.mp e
    have es : standF pr (ns.take (i + 1)) = standF pr (ns.take i) ++ [(n, pr n)] := by
      rw [tk, standF_snoc]; unfold stepS
      rw [if_neg (by rw [ea]; exact Bool.false_ne_true)]
    refine ⟨?_, es⟩
    obtain ⟨more, e2⟩ := standF_take pr ns (i + 1)
    unfold isSt
    refine decide_eq_true ?_
    rw [e2]
    refine headAt_app ?_
    rw [es]
    unfold headAt at e ⊢
    rw [Option.map_eq_none_iff] at e
    rw [List.find?_append, e]
    simp
  · intro o e
    obtain ⟨more, e2⟩ := standF_take pr ns i
    have e3 : headAt (standF pr ns) (pr n) = some o := by rw [e2]; exact headAt_app e
    have on : o ≠ n := fun z => by
      subst z
      unfold headAt at e
      obtain ⟨z, hz, rfl⟩ := Option.map_eq_some_iff.mp e
      exact not_in_take hn h (ok.m z (List.mem_of_find?_eq_some hz))
    refine ⟨decide_eq_false fun z => ?_, e3, ?_⟩
    · rw [e3] at z; exact on (Option.some.inj z)
    · rw [tk, standF_snoc]; unfold stepS
      rw [if_pos]
      cases q : (standF pr (ns.take i)).any fun z => decide (z.2 = pr n) with
      | true => rfl
      | false => rw [headAt_none.mpr q] at e; cases e
/-- those that stand, in order -/
theorem stand_names (pr : Str → Pt) {ns : List Str} (hn : ns.Nodup) : ∀ i, i ≤ ns.length → (standF pr (ns.take i)).map (·.1) = (ns.take i).filter (isSt pr ns)
  | 0, _ => by simp [standF]
  | i + 1, hi => by
    have ih := stand_names pr hn i (by omega)
    have hl : i < ns.length := by omega
    have h : ns[i]? = some ns[i] := List.getElem?_eq_getElem hl
    have tk : ns.take (i + 1) = ns.take i ++ [ns[i]] := by rw [List.take_add_one, h]; rfl
    obtain ⟨a1, a2⟩ := stand_at pr hn h
    cases e : headAt (standF pr (ns.take i)) (pr ns[i]) with
    | none =>
      obtain ⟨b1, b2⟩ := a1 e
      rw [b2, List.map_append, ih, tk, List.filter_append]
      simp [b1]
    | some o =>
      obtain ⟨b1, _, b2⟩ := a2 o e
      rw [b2, ih, tk, List.filter_append]
      simp [b1]
theorem stand_all (pr : Str → Pt) {ns : List Str} (hn : ns.Nodup) : (standF pr ns).map (·.1) = ns.filter (isSt pr ns) := by
  have := stand_names pr hn ns.length (Nat.le_refl _)
  rwa [List.take_length] at this
/-- those that stand ahead of one -/
theorem stand_before {ns : List Str} (hn : ns.Nodup) {t : Str → Bool} {i : Nat} {n : Str} (h : ns[i]? = some n) (ht : t n = true) : (ns.filter t).takeWhile (fun m => decide (m ≠ n)) = (ns.take i).filter t := by
  have hl := (List.getElem?_eq_some_iff.mp h).1
  have sp : ns = ns.take i ++ n :: ns.drop (i + 1) := by
    have e := (List.take_append_drop i ns).symm
    rw [List.drop_eq_getElem_cons hl] at e
    have : ns[i] = n := by have := List.getElem?_eq_some_iff.mp h; exact this.2
    rw [this] at e
    exact e
  have hni := not_in_take hn h
  conv => lhs; rw [sp]
  rw [List.filter_append, List.filter_cons, if_pos ht]
  rw [List.takeWhile_append_of_pos]
  · simp
  · intro m hm
    exact decide_eq_true fun e => hni (e ▸ (List.mem_filter.mp hm).1)
theorem boxesF_snoc (st : List (Str × Pt)) (pr : Str → Pt) (t : Int) (S : List Str) (n : Str) : boxesF st pr t (S ++ [n]) = (oneF st (pr n) t n (boxesF st pr t S)).2 := by
  unfold boxesF
  rw [List.foldl_append]; rfl
theorem boxesF_len (st : List (Str × Pt)) (pr : Str → Pt) (t : Int) : ∀ S : List Str, (boxesF st pr t S).length ≤ S.length := fun S => by
  have : ∀ (S : List Str) (bx : List (Str × Bx)), (S.foldl (fun bx n => (oneF st (pr n) t n bx).2) bx).length ≤ bx.length + S.length := fun S => by
    induction S with
    | nil => intro bx; exact Nat.le_refl _
    | cons n S ih =>
      intro bx
      rw [List.foldl_cons]
      have h1 := ih (oneF st (pr n) t n bx).2
      have h2 : (oneF st (pr n) t n bx).2.length ≤ bx.length + 1 := by
        unfold oneF
        split <;> simp
      rw [List.length_cons]
      omega
  have h := this S []
  simpa [boxesF] using h
theorem boxesF_keys (st : List (Str × Pt)) (pr : Str → Pt) (t : Int) : ∀ S : List Str, ((boxesF st pr t S).map (·.1)).Sublist S := fun S => by
  have : ∀ (S : List Str) (bx : List (Str × Bx)), ((S.foldl (fun bx n => (oneF st (pr n) t n bx).2) bx).map (·.1)).Sublist (bx.map (·.1) ++ S) := fun S => by
    induction S with
    | nil => intro bx; simp
    | cons n S ih =>
      intro bx
      rw [List.foldl_cons]
      refine (ih _).trans ?_
      unfold oneF
      split
      · rw [List.map_append]; simp
      · exact List.Sublist.append (List.Sublist.refl _) (List.sublist_cons_self _ _)
  have h := this S []
  simpa [boxesF] using h
theorem boxesF_pb (st : List (Str × Pt)) (pr : Str → Pt) {t : Int} (h : 0 ≤ t) : ∀ S : List Str, ∀ z ∈ boxesF st pr t S, PB z.2 := fun S => by
  have : ∀ (S : List Str) (bx : List (Str × Bx)), (∀ z ∈ bx, PB z.2) → ∀ z ∈ S.foldl (fun bx n => (oneF st (pr n) t n bx).2) bx, PB z.2 := fun S => by
    induction S with
    | nil => intro bx hb; exact hb
    | cons n S ih =>
      intro bx hb
      rw [List.foldl_cons]
      refine ih _ fun z hz => ?_
      unfold oneF at hz
      split at hz
      · rcases List.mem_append.mp hz with hz | hz
        · exact hb z hz
        · simp at hz; subst hz; exact sideF_pb h
      · exact hb z hz
  exact this S [] (by simp)
end G3

set_option Elab.async false
set_option linter.all false
set_option maxRecDepth 100000
set_option maxHeartbeats 4000000
/-! lettering: promises -/
namespace G3
open PySem PySem.Spec L2 PySem.W
theorem inV_strs (i : Str) (ns : List Str) : inV (.str i) (ns.map V.str) = decide (i ∈ ns) := by
  unfold inV
  induction ns with
  | nil => rfl
  | cons n ns ih =>
    rw [List.map_cons, List.any_cons, ih]
    show ((n == i) || decide (i ∈ ns)) = decide (i ∈ n :: ns)
    rw [Bool.eq_iff_iff, Bool.or_eq_true, beq_iff_eq, decide_eq_true_eq, decide_eq_true_eq, List.mem_cons]
    exact ⟨fun h => h.elim (fun e => .inl e.symm) .inr, fun h => h.elim (fun e => .inl e.symm) .inr⟩
theorem flat_strs (ns : List Str) : (ns.map V.str).all flatV = true := by
  induction ns with
  | nil => rfl
  | cons n ns ih => rw [List.map_cons, List.all_cons, ih]; rfl
theorem o2_inTx {X : Cx} {M : Mp} {Q : VQ} {x : Str} {ns : List Str} (q : Q (.bl (decide (x ∈ ns))) M) : O2 X (compareOp .In) (.str x) (.tup (ns.map .str)) M Q := fun H v u m r1 r2 => by
  cases r1
  obtain ⟨ad, vs, rfl, h1, h2⟩ := r2.tupv
  rw [rvs_strsV h2] at h1
  exact wOp.of op_in_seq ⟨ad, _, rfl, .inr h1, rfl, flat_strs ns, .mk m (.bl _) (by rw [if_neg Bool.false_ne_true, inV_strs]; exact q)⟩
theorem side_r {k : Nat} (h : k < 4) : decide (sideS k ∈ ([Str.ofString "ne", Str.ofString "se"] : List Str)) = !decide (k % 2 = 1) := by
  match k, h with
  | 0, _ => decide +kernel
  | 1, _ => decide +kernel
  | 2, _ => decide +kernel
  | 3, _ => decide +kernel
theorem side_u {k : Nat} (h : k < 4) : decide (sideS k ∈ ([Str.ofString "ne", Str.ofString "nw"] : List Str)) = !decide (2 ≤ k) := by
  match k, h with
  | 0, _ => decide +kernel
  | 1, _ => decide +kernel
  | 2, _ => decide +kernel
  | 3, _ => decide +kernel
abbrev Sites := List (Str × Sit)
def rankF (l : Sites) (n : Str) : Int := ((getS l n).map (·.2)).getD 0
def prF (l : Sites) (n : Str) : Pt := ((getS l n).map (·.1)).getD (0, 0)
def ordF (l : Sites) : List Str := srtBy (rankF l) (l.map (·.1))
abbrev dTS (st : List (Str × Pt)) : List (List Key × VV) := st.map fun z => (ptK z.2, VV.str z.1)
abbrev lettK (ps : Str → Addr) (lt : Str → Lt) (ns : List Str) : List (Key × VV) := ns.map fun n => ((Sum.inr n : Key), ltv (ps n) (lt n))
/-- where the lists of bars stand -/
structure Psk (M M' : Mp) (ps : Str → Addr) (lt : Str → Lt) (ns : List Str) : Prop where
  at_ : ∀ n ∈ ns, ∀ bs, lt n = .barred bs → M' (ps n) = some (.lst (bs.map vbar)) ∧ M (ps n) = none
  ap : ∀ n ∈ ns, ∀ m ∈ ns, isBar (lt n) = true → isBar (lt m) = true → ps n = ps m → n = m
structure SiOk (l : Sites) (t : Int) : Prop where
  d : (l.map (·.1)).Nodup
  len : l.length ≤ 20
  nm : ∀ p ∈ l, Nme p.1
  t0 : 0 ≤ t
  t1 : t ≤ 1000
theorem ord_nd {l : Sites} (h : (l.map (·.1)).Nodup) : (ordF l).Nodup := (srtBy_perm _ _).nodup_iff.mpr h
theorem ord_mem {l : Sites} {n : Str} : n ∈ ordF l ↔ n ∈ l.map (·.1) := srtBy_mem
theorem ord_len (l : Sites) : (ordF l).length = l.length := by unfold ordF; rw [srtBy_len, List.length_map]
theorem ord_get {l : Sites} {n : Str} (h : n ∈ ordF l) : ∃ q, getS l n = some q ∧ prF l n = q.1 ∧ rankF l n = q.2 := by
  obtain ⟨q, hq⟩ := Option.isSome_iff_exists.mp (getS_isSome.mpr (ord_mem.mp h))
  exact ⟨q, hq, by unfold prF; rw [hq]; rfl, by unfold rankF; rw [hq]; rfl⟩
theorem dTS_look (p : Pt) : ∀ st : List (Str × Pt), lookW (dTS st) (ptK p) = (headAt st p).map VV.str
  | [] => rfl
  | z :: st => by
    have ih := dTS_look p st
    unfold lookW headAt at ih ⊢
    show (List.find? _ ((ptK z.2, VV.str z.1) :: dTS st)).map (·.2) = _
    rw [List.find?_cons, List.find?_cons]
    have e : decide (ptK z.2 = ptK p) = decide (z.2 = p) := decide_eq_decide.mpr ⟨fun h => by
      have h : ([Sum.inl z.2.1, Sum.inl z.2.2] : List Key) = [Sum.inl p.1, Sum.inl p.2] := h
      simp only [List.cons.injEq, Sum.inl.injEq, and_true] at h
      exact Prod.ext h.1 h.2, fun h => by rw [h]⟩
    show (Option.map _ (match decide (ptK z.2 = ptK p) with | true => _ | false => _)) = _
    rw [e]
    cases decide (z.2 = p) with
    | true => rfl
    | false => exact ih
theorem putW_new {κ : Type} [DecidableEq κ] {kvs : List (κ × VV)} {k : κ} {w : VV} (h : lookW kvs k = none) : putW kvs k w = kvs ++ [(k, w)] := by
  unfold putW
  rw [if_neg]
  intro z
  obtain ⟨q, hq, e⟩ := List.any_eq_true.mp z
  unfold lookW at h
  rw [Option.map_eq_none_iff, List.find?_eq_none] at h
  exact h q hq e
theorem find_hit {α : Type} {f : α → Bool} {l : List α} {i : Nat} {z : α} (h : (l.take i).find? f = none) (hz : l[i]? = some z) (hf : f z = true) : l.find? f = some z := by
  have hl := (List.getElem?_eq_some_iff.mp hz).1
  conv => lhs; rw [← List.take_append_drop i l]
  rw [List.find?_append, h, List.drop_eq_getElem_cons hl]
  have : l[i] = z := (List.getElem?_eq_some_iff.mp hz).2
  rw [this, List.find?_cons, hf]
  rfl
theorem find_miss {α : Type} {f : α → Bool} {l : List α} {i : Nat} {z : α} (h : (l.take i).find? f = none) (hz : l[i]? = some z) (hf : f z = false) : (l.take (i + 1)).find? f = none := by
  rw [List.take_add_one, hz, List.find?_append, h]
  show ([z].find? f) = none
  rw [List.find?_cons, hf]
  rfl
theorem barF_site {n : Str} {b : Bx} {st : List (Str × Pt)} {bx : List (Str × Bx)} {z : Str × Pt} (h : st.find? (fun z => decide (z.1 ≠ n) && inB z.2 b) = some z) : barF n b st bx = some (Str.ofString "site", z.1) := by unfold barF; rw [h]
theorem barF_name {n : Str} {b : Bx} {st : List (Str × Pt)} {bx : List (Str × Bx)} {z : Str × Bx} (h : st.find? (fun z => decide (z.1 ≠ n) && inB z.2 b) = none) (g : bx.find? (fun z => meetB b z.2) = some z) : barF n b st bx = some (Str.ofString "name", z.1) := by unfold barF; rw [h, g]; rfl
theorem barF_none {n : Str} {b : Bx} {st : List (Str × Pt)} {bx : List (Str × Bx)} (h : st.find? (fun z => decide (z.1 ≠ n) && inB z.2 b) = none) (g : bx.find? (fun z => meetB b z.2) = none) : barF n b st bx = none := by unfold barF; rw [h, g]; rfl
/-! promises -/
def spBoxAt : Sp3 := fun ws M Q => ∃ (p : Pt) (n : Str) (t : Int) (k : Nat), ws = [vpf p, .str n, .int t, .str (sideS k)] ∧ k < 4 ∧ n.length ≤ 100 ∧ 0 ≤ t ∧ t ≤ 1000 ∧ Q (vbx (sideF p n t k)) M
def spInBox : Sp3 := fun ws M Q => ∃ (p : Pt) (b : Bx), ws = [vpf p, vbx b] ∧ Q (.bl (inB p b)) M
def spMeet : Sp3 := fun ws M Q => ∃ (a b : Bx), ws = [vbx a, vbx b] ∧ Q (.bl (meetB a b)) M
def spByRank (P : Addr) : Sp3 := fun ws M Q => ∃ (d : Addr) (l : Sites), ws = [.ref d] ∧ DkAt M d (dS vsi l) ∧ M P = some (.tab (lamQ "by_rank")) ∧ ∀ r M2, M r = none → LeM M M2 → M2 r = some (.lst ((ordF l).map .str)) → Q (.ref r) M2
def spStanding (P : Addr) : Sp3 := fun ws M Q => ∃ (d : Addr) (l : Sites), ws = [.ref d] ∧ DkAt M d (dS vsi l) ∧ M P = some (.tab (lamQ "by_rank")) ∧ (l.map (·.1)).Nodup ∧ l.length ≤ 20 ∧ ∀ r M2, M r = none → LeM M M2 → M2 r = some (.dT (dTS (standF (prF l) (ordF l)))) → Q (.ref r) M2
def spBarring : Sp3 := fun ws M Q => ∃ (n : Str) (b : Bx) (s x : Addr) (st : List (Str × Pt)) (bx : List (Str × Bx)), ws = [.str n, vbx b, .ref s, .ref x] ∧ M s = some (.dT (dTS st)) ∧ M x = some (.dK (dS vbx bx)) ∧ st.length ≤ 100 ∧ bx.length ≤ 100 ∧ Q (vbar (barF n b st bx)) M
def spLettered (P : Addr) : Sp3 := fun ws M Q => ∃ (d : Addr) (l : Sites) (t : Int), ws = [.ref d, .int t] ∧ M d = some (.dK (dS vsi l)) ∧ M P = some (.tab (lamQ "by_rank")) ∧ SiOk l t ∧
  ∀ r ps M2, M r = none → LeM M M2 → M2 r = some (.dK (lettK ps (ltOf (prF l) t (ordF l)) (ordF l))) → Psk M M2 ps (ltOf (prF l) t (ordF l)) (ordF l) → Q (.ref r) M2
end G3

set_option Elab.async false
set_option linter.all false
set_option maxRecDepth 100000
set_option maxHeartbeats 4000000
/-! lettering: steps of the loop -/
namespace G3
open PySem PySem.Spec L2 PySem.W
theorem oi_dT {X : Cx} {M : Mp} {Q : VQ} {N : List Str} {sc : Scope} {fl : Bool} {k : Nat} {P : Program} {w : World} {K : PySem.W.Frag} {mg : Str → Option Value} {base : Heap} {CX : CXT} (B : Bd P w K mg base CX N sc fl k X) {a : Addr} {st : List (Str × Pt)} {p : Pt} {o : Str} (h : DtAt M a (dTS st)) (e : headAt st p = some o) (q : Q (.str o) M) : OI X (.ref a) (vpf p) M Q :=
  oi_dic B (z := .str o) (by have := Dg.t (ptK p) h; rw [dTS_look, e] at this; exact this) q
theorem lett_none {ps : Str → Addr} {lt : Str → Lt} {n : Str} {ns : List Str} (h : n ∉ ns) : lookW (lettK ps lt ns) (.inr n) = none := by
  unfold lookW
  rw [Option.map_eq_none_iff, List.find?_eq_none]
  intro q hq
  obtain ⟨m, hm, rfl⟩ := List.mem_map.mp hq
  intro e
  have e := of_decide_eq_true e
  exact h (Sum.inr.inj e ▸ hm)
theorem lett_get {ps : Str → Addr} {lt : Str → Lt} {n : Str} : ∀ {ns : List Str}, n ∈ ns → lookW (lettK ps lt ns) (.inr n) = some (ltv (ps n) (lt n))
  | m :: ns, h => by
    unfold lookW
    show ((((Sum.inr m : Key), ltv (ps m) (lt m)) :: lettK ps lt ns).find? _).map (·.2) = _
    rw [List.find?_cons]
    by_cases e : m = n
    · subst e; simp
    · have : decide ((Sum.inr m : Key) = Sum.inr n) = false := decide_eq_false fun z => e (Sum.inr.inj z)
      rw [this]
      rcases List.mem_cons.mp h with z | z
      · exact absurd z.symm e
      · exact lett_get z
theorem lett_congr {ps ps' : Str → Addr} {lt : Str → Lt} {ns : List Str} (h : ∀ n ∈ ns, ps n = ps' n) : lettK ps lt ns = lettK ps' lt ns := List.map_congr_left fun n hn => by rw [h n hn]
theorem Psk.le {M M' M2 : Mp} {ps : Str → Addr} {lt : Str → Lt} {ns : List Str} (h : Psk M M' ps lt ns) (l : LeM M' M2) : Psk M M2 ps lt ns := ⟨fun n hn bs e => ⟨l _ _ (h.at_ n hn bs e).1, (h.at_ n hn bs e).2⟩, h.ap⟩
theorem Psk.nil {M M' : Mp} {ps : Str → Addr} {lt : Str → Lt} : Psk M M' ps lt [] := ⟨fun n hn => (nomatch hn), fun n hn => (nomatch hn)⟩
theorem Psk.no {M M' : Mp} {ps : Str → Addr} {lt : Str → Lt} {ns : List Str} {n : Str} (h : Psk M M' ps lt ns) (e : isBar (lt n) = false) : Psk M M' ps lt (ns ++ [n]) := by
  refine ⟨fun m hm bs e2 => ?_, fun a ha b hb ea eb e2 => ?_⟩
  · rcases List.mem_append.mp hm with hm | hm
    · exact h.at_ m hm bs e2
    · simp at hm; subst hm; rw [e2] at e; cases e
  · have w : ∀ x ∈ ns ++ [n], isBar (lt x) = true → x ∈ ns := fun x hx ex => by
      rcases List.mem_append.mp hx with hx | hx
      · exact hx
      · simp at hx; subst hx; rw [e] at ex; cases ex
    exact h.ap a (w a ha ea) b (w b hb eb) ea eb e2
theorem Psk.bar {M M' : Mp} {ps : Str → Addr} {lt : Str → Lt} {ns : List Str} {n : Str} {p : Addr} {bs : List (Option Bar)} (h : Psk M M' ps lt ns) (hn : n ∉ ns) (e : lt n = .barred bs) (hp : M' p = some (.lst (bs.map vbar))) (np : M p = none) (fr : ∀ m ∈ ns, isBar (lt m) = true → ps m ≠ p) : Psk M M' (fun m => if m = n then p else ps m) lt (ns ++ [n]) := by
  have ne : ∀ m ∈ ns, m ≠ n := fun m hm z => hn (z ▸ hm)
  refine ⟨fun m hm bs2 e2 => ?_, fun a ha b hb ea eb e2 => ?_⟩
  · rcases List.mem_append.mp hm with hm | hm
    · show M' (if m = n then p else ps m) = _ ∧ M (if m = n then p else ps m) = none
      rw [if_neg (ne m hm)]
      exact h.at_ m hm bs2 e2
    · simp at hm; subst hm
      show M' (if m = m then p else ps m) = _ ∧ M (if m = m then p else ps m) = none
      rw [if_pos rfl]
      rw [e] at e2; cases e2
      exact ⟨hp, np⟩
  · have e2 : (if a = n then p else ps a) = if b = n then p else ps b := e2
    by_cases a1 : a = n <;> by_cases b1 : b = n
    · rw [a1, b1]
    · rw [if_pos a1, if_neg b1] at e2
      rcases List.mem_append.mp hb with hb | hb
      · exact absurd e2.symm (fr b hb eb)
      · simp at hb; exact absurd hb b1
    · rw [if_neg a1, if_pos b1] at e2
      rcases List.mem_append.mp ha with ha | ha
      · exact absurd e2 (fr a ha ea)
      · simp at ha; exact absurd ha a1
    · rw [if_neg a1, if_neg b1] at e2
      have w : ∀ x ∈ ns ++ [n], x ≠ n → x ∈ ns := fun x hx ex => by
        rcases List.mem_append.mp hx with hx | hx
        · exact hx
        · simp at hx; exact absurd hx ex
      exact h.ap a (w a ha a1) b (w b hb b1) ea eb e2
theorem Psk.putD {M M' : Mp} {ps : Str → Addr} {lt : Str → Lt} {ns : List Str} {p : Addr} {o : MO} {kvs : List (Key × VV)} (h : Psk M M' ps lt ns) (e : M' p = some (.dK kvs)) : Psk M (updM M' p o) ps lt ns :=
  ⟨fun n hn bs eb => ⟨by rw [updM_ne (fun z => by have := (h.at_ n hn bs eb).1; rw [z, e] at this; cases this)]; exact (h.at_ n hn bs eb).1, (h.at_ n hn bs eb).2⟩, h.ap⟩
theorem lett_snoc {ps : Str → Addr} {lt : Str → Lt} {ns : List Str} {n : Str} {v : VV} (e : ltv (ps n) (lt n) = v) : lettK ps lt (ns ++ [n]) = lettK ps lt ns ++ [(Sum.inr n, v)] := by
  subst e
  simp only [lettK, List.map_append, List.map_cons, List.map_nil]
theorem box_none {bx : List (Str × Bx)} {n : Str} (h : n ∉ bx.map (·.1)) : lookW (dS vbx bx) (.inr n) = none := by
  rw [dS_look]
  cases e : getS bx n with
  | none => rfl
  | some b => exact absurd (List.mem_map.mpr ⟨_, getS_mem e, rfl⟩) h
theorem getS_snoc {β : Type} {bx : List (Str × β)} {n : Str} {b : β} (h : n ∉ bx.map (·.1)) : getS (bx ++ [(n, b)]) n = some b := by
  unfold getS
  rw [List.find?_append]
  have : bx.find? (fun q => decide (q.1 = n)) = none := by
    rw [List.find?_eq_none]
    intro q hq e
    exact h (List.mem_map.mpr ⟨q, hq, of_decide_eq_true e⟩)
  rw [this]
  simp
theorem bars_len (st : List (Str × Pt)) (p : Pt) (t : Int) (n : Str) (bx : List (Str × Bx)) : (barsF st p t n bx).length = 4 := rfl
theorem bars_at {st : List (Str × Pt)} {p : Pt} {t : Int} {n : Str} {bx : List (Str × Bx)} {k : Nat} (h : (barsF st p t n bx).findIdx? (fun b => b.isNone) = some k) : k < 4 ∧ (barsF st p t n bx)[k]? = some none ∧ (∀ m, m < k → (barsF st p t n bx)[m]? ≠ some none) ∧ none ∈ barsF st p t n bx := by
  obtain ⟨hl, h1, h2⟩ := List.findIdx?_eq_some_iff_getElem.mp h
  have e : (barsF st p t n bx)[k] = none := by
    cases q : (barsF st p t n bx)[k] with
    | none => rfl
    | some b => rw [q] at h1; cases h1
  refine ⟨hl, by rw [List.getElem?_eq_getElem hl, e], fun m hm z => ?_, by rw [← e]; exact List.getElem_mem hl⟩
  have hm2 : m < (barsF st p t n bx).length := by omega
  rw [List.getElem?_eq_getElem hm2] at z
  have := h2 m hm
  rw [Option.some.inj z] at this
  exact this rfl
theorem bars_no {st : List (Str × Pt)} {p : Pt} {t : Int} {n : Str} {bx : List (Str × Bx)} (h : (barsF st p t n bx).findIdx? (fun b => b.isNone) = none) : none ∉ barsF st p t n bx := fun z => by
  have := List.findIdx?_eq_none_iff.mp h none z
  cases this
def BarOk (b : Option Bar) : Prop := ∀ q, b = some q → PyData.strOk q.1 = true ∧ PyData.strOk q.2 = true
theorem bar_lay {b : Option Bar} (h : BarOk b) : PyData.canLay0 (Datum.toD b) = true := by
  cases b with
  | none => rfl
  | some q =>
    obtain ⟨h1, h2⟩ := h q rfl
    show PyData.canLay0 (.tuple [.str q.1, .str q.2]) = true
    simp only [PyData.canLay0, PyData.canLayAll0, h1, h2, Bool.and_self]
theorem bar_sh : SeqAt.shaped (Datum.toD (none : Option Bar)) = true := rfl
theorem bars_sh {l : List (Option Bar)} (h : ∀ b ∈ l, BarOk b) : SeqAt.shaped (Datum.toD l) = true := by
  have h1 : PyData.canLayAll0 (l.map Datum.toD) = true := by
    induction l with
    | nil => rfl
    | cons b l ih =>
      rw [List.map_cons, PyData.canLayAll0, bar_lay (h b (by simp)), ih fun c hc => h c (by simp [hc])]
      rfl
  have h2 : (Datum.toD l).depth ≤ 64 := Nat.le_trans (Datum.depth_le l) (by decide)
  have h3 : PyData.canLay0 (Datum.toD l) = true := by
    show PyData.canLay0 (.list (l.map Datum.toD)) = true
    rw [PyData.canLay0]; exact h1
  unfold SeqAt.shaped
  rw [h3, decide_eq_true h2]; rfl
theorem barF_ok {n : Str} {b : Bx} {st : List (Str × Pt)} {bx : List (Str × Bx)} (h1 : ∀ z ∈ st, PyData.strOk z.1 = true) (h2 : ∀ z ∈ bx, PyData.strOk z.1 = true) : BarOk (barF n b st bx) := fun q e => by
  unfold barF at e
  split at e
  · rename_i z hz
    cases e
    exact ⟨(by decide +kernel : PyData.strOk (Str.ofString "site") = true), h1 z (List.mem_of_find?_eq_some hz)⟩
  · obtain ⟨z, hz, rfl⟩ := Option.map_eq_some_iff.mp e
    exact ⟨(by decide +kernel : PyData.strOk (Str.ofString "name") = true), h2 z (List.mem_of_find?_eq_some hz)⟩
theorem bars_ok {st : List (Str × Pt)} {p : Pt} {t : Int} {n : Str} {bx : List (Str × Bx)} (h1 : ∀ z ∈ st, PyData.strOk z.1 = true) (h2 : ∀ z ∈ bx, PyData.strOk z.1 = true) : ∀ b ∈ barsF st p t n bx, BarOk b := fun b hb => by
  obtain ⟨k, _, rfl⟩ := List.mem_map.mp hb
  exact barF_ok h1 h2
theorem o2_inBars {X : Cx} {M : Mp} {Q : VQ} {D : Addr} {l : List (Option Bar)} (hu : X.A.units + 65 < cLine) (hD : M D = some (.lst (l.map vbar))) (hok : ∀ b ∈ l, BarOk b) (q : Q (.bl (l.findIdx? fun b => b.isNone).isSome) M) : O2 X (compareOp .In) .non (.ref D) M Q := by
  refine o2_inD (x := (none : Option Bar)) (xs := l) hu .non (dw_lst dw_vbar (.ref hD)) bar_sh (bars_sh hok) ?_
  have e : ∀ i : Decidable ((none : Option Bar) ∈ l), @decide _ i = (l.findIdx? fun b => b.isNone).isSome := fun i => by
    rw [Bool.eq_iff_iff, decide_eq_true_eq]
    cases h : l.findIdx? fun b => b.isNone with
    | none =>
      refine ⟨fun hm => ?_, fun z => by cases z⟩
      have := List.findIdx?_eq_none_iff.mp h none hm
      cases this
    | some k =>
      refine ⟨fun _ => rfl, fun _ => ?_⟩
      obtain ⟨hl, h1, _⟩ := List.findIdx?_eq_some_iff_getElem.mp h
      cases q : l[k] with
      | none => rw [← q]; exact List.getElem_mem hl
      | some b => rw [q] at h1; cases h1
  rw [e]; exact q
theorem bars_of (st : List (Str × Pt)) (p : Pt) (t : Int) (n : Str) (bx : List (Str × Bx)) : (barsF st p t n bx).map vbar = ([0, 1, 2, 3] : List Nat).map fun k => vbar (barF n (sideF p n t k) st bx) := rfl
end G3

set_option Elab.async false
set_option linter.all false
set_option maxRecDepth 100000
set_option maxHeartbeats 4000000
/-! comprehensions over a dict's keys and items, the lock hidden -/
namespace G3
open PySem PySem.Spec L2 PySem.W
theorem itm_keyS {β : Type} {M : Mp} {a : Addr} {L : MO} {f : β → VV} {l : List (Str × β)} (hl : M a = some L) (hz : l.length ≤ sizeLine) : Itm (itKey a L (dS f l)) M l (fun z y => y = .str z.1) where
  n := List.length_map ..
  item := fun j u hj ⟨k, w, hk, e⟩ => by
    rw [List.getElem?_map] at hk
    obtain ⟨z, hz, e2⟩ := Option.map_eq_some_iff.mp hk
    cases e2
    exact ⟨z, hz, e⟩
  hold := fun M' l => l _ _ hl
  size := hz
/-- M' has all of M, p perhaps locked -/
structure LkM (M : Mp) (p : Addr) (kvs : List (Key × VV)) (M' : Mp) : Prop where
  keep : ∀ q o, M q = some o → q ≠ p → M' q = some o
  at_ : DkAt M' p kvs
variable {P : Program} {w : World} {K : PySem.W.Frag} {mg : Str → Option Value} {base : Heap} {CX : CXT} {N : List Str} {sc scope : Scope} {fl : Bool} {k : Nat}
variable {X : Cx} {elt kx vx tg e c : Expr} {ifs : List Expr} {σ : St3} {M : Mp} {Q : VQ} {D : En} {pos : Pos} {g : TG} {sel : VV → List VV → Prop} {β : Type}
theorem LkM.of {M M' : Mp} {p : Addr} {kvs : List (Key × VV)} {o : Obj} {xs : List (Key × V)} (l : LeM (updM M p (.lk o xs kvs)) M') : LkM M p kvs M' :=
  ⟨fun q u h hq => l _ _ (by rw [updM_ne hq]; exact h), .inr ⟨o, xs, l _ _ updM_same⟩⟩
theorem LkM.at {M M' : Mp} {p : Addr} {kvs : List (Key × VV)} (h : LkM M p kvs M') {q : Addr} {o : MO} (e : M q = some o) (hd : ∀ kv, o ≠ .dK kv) (hp : M p = some (.dK kvs)) : M' q = some o :=
  h.keep q o e (neM2 e hp (hd _))
theorem LkM.le {M M' M2 : Mp} {p : Addr} {kvs : List (Key × VV)} (h : LkM M p kvs M') (l : LeM M' M2) : LkM M p kvs M2 :=
  ⟨fun q o e hq => l _ _ (h.keep q o e hq), h.at_.le l⟩
/-- [elt for x in d if c] -/
theorem we_lcK (B : Bd P w K mg base CX N sc fl k X) (own : List (Str × Nat)) (hok : blkC N sc scope own = true) (hg : ∀ (s0 : Shared) (H0 : Hp) (C : Addr) (cl : List (Str × Addr)) (fp : List Addr), PG (X.blk s0 H0 scope (compEnvC scope cl C X.env) fp) tg g) (ct : CTg K g (own.map (·.2)) sel) {p : Addr} {f : β → VV} {l : List (Str × β)} (hp : M p = some (.dK (dS f l))) (hz : l.length ≤ sizeLine) (he0 : ∀ M0 R, R (.ref p) M0 → WE X e σ M0 R) (t : (Str × β) → Bool) (v : (Str × β) → VV)
    (he : ∀ z M', z ∈ l → LkM M p (dS f l) M' → ∃ us, sel (.str z.1) us ∧ ∀ Y : Cx, Bd P w K mg base CX N (scBlk scope sc) false k Y → WT Y c (putA (wipeA σ (own.map (·.2))) (own.map (·.2)) us) M' fun b M1 => b = t z ∧ LeM M' M1 ∧ (b = true → ∀ Y' : Cx, Bd P w K mg base CX N (scBlk scope sc) false k Y' → WE Y' elt (putA (wipeA σ (own.map (·.2))) (own.map (·.2)) us) M1 fun y M2 => y = v z ∧ LeM M1 M2))
    (q : ∀ D, M D = none → ∀ M', LeM M M' → M' D = some (.lst ((l.filter t).map v)) → Q (.ref D) M') (hs : ∀ x, foldedSetIterable e X.env x = pure x := by intro _; rfl) : WE X (.ListComp elt [⟨tg, e, [c], 0⟩] scope pos) σ M Q := by
  refine we_lock hp fun o xs => ?_
  refine we_lc B own hok (by first | exact Nat.le_refl 1 | decide) hg ct ?_ hs
  refine wi_keysL (he0 _ _ ?_)
  refine ⟨p, o, xs, _, rfl, updM_same, ?_⟩
  refine compI_filter l (itm_keyS updM_same hz) t v (fun z u M' hz e l => by subst e; exact he z M' hz (LkM.of l)) fun D hD M' l => ?_
  have Dp : D ≠ p := fun z => by subst z; rw [updM_same] at hD; cases hD
  have lM := (LeM.new hD).trans l
  refine ⟨lM _ _ updM_same, q D (by rw [updM_ne Dp] at hD; exact hD) _ (LeM.unlock hp lM) ?_⟩
  rw [updM_ne Dp]
  exact l _ _ updM_same
theorem we_lcK1 (B : Bd P w K mg base CX N sc fl k X) (own : List (Str × Nat)) (hok : blkC N sc scope own = true) (hg : ∀ (s0 : Shared) (H0 : Hp) (C : Addr) (cl : List (Str × Addr)) (fp : List Addr), PG (X.blk s0 H0 scope (compEnvC scope cl C X.env) fp) tg g) (ct : CTg K g (own.map (·.2)) sel) {p : Addr} {f : β → VV} {l : List (Str × β)} (hp : M p = some (.dK (dS f l))) (hz : l.length ≤ sizeLine) (he0 : ∀ M0 R, R (.ref p) M0 → WE X e σ M0 R) (v : (Str × β) → VV)
    (he : ∀ z M', z ∈ l → LkM M p (dS f l) M' → ∃ us, sel (.str z.1) us ∧ ∀ Y : Cx, Bd P w K mg base CX N (scBlk scope sc) false k Y → WE Y elt (putA (wipeA σ (own.map (·.2))) (own.map (·.2)) us) M' fun y M2 => y = v z ∧ LeM M' M2)
    (q : ∀ D, M D = none → ∀ M', LeM M M' → M' D = some (.lst (l.map v)) → Q (.ref D) M') (hs : ∀ x, foldedSetIterable e X.env x = pure x := by intro _; rfl) : WE X (.ListComp elt [⟨tg, e, [], 0⟩] scope pos) σ M Q := by
  refine we_lock hp fun o xs => ?_
  refine we_lc B own hok (by first | exact Nat.le_refl 1 | decide) hg ct ?_ hs
  refine wi_keysL (he0 _ _ ?_)
  refine ⟨p, o, xs, _, rfl, updM_same, ?_⟩
  refine compI_map l (itm_keyS updM_same hz) v (fun z u M' hz e l => by subst e; exact he z M' hz (LkM.of l)) fun D hD M' l => ?_
  have Dp : D ≠ p := fun z => by subst z; rw [updM_same] at hD; cases hD
  have lM := (LeM.new hD).trans l
  refine ⟨lM _ _ updM_same, q D (by rw [updM_ne Dp] at hD; exact hD) _ (LeM.unlock hp lM) ?_⟩
  rw [updM_ne Dp]
  exact l _ _ updM_same
/-- y = [elt for x in d if c] -/
theorem ws_setLcK (B : Bd P w K mg base CX N sc fl k X) (own : List (Str × Nat)) {spos : Pos} {y : Str} {py : Pos} {iy : Nat} (hiy : At N iy y) (hyl : sc.names.lookup y = some .local) (hsw : swapsWith (.ListComp elt [⟨tg, e, [c], 0⟩] scope pos) (some (.Name y py)) spos.line (cenv sc) = pure true) (hok : blkC N sc scope own = true) (hg : ∀ (s0 : Shared) (H0 : Hp) (C : Addr) (cl : List (Str × Addr)) (fp : List Addr), PG (X.blk s0 H0 scope (compEnvC scope cl C X.env) fp) tg g) (ct : CTg K g (own.map (·.2)) sel) {p : Addr} {f : β → VV} {l : List (Str × β)} (hp : M p = some (.dK (dS f l))) (hz : l.length ≤ sizeLine) (he0 : ∀ M0 R, R (.ref p) M0 → WE X e σ M0 R) (t : (Str × β) → Bool) (v : (Str × β) → VV)
    (he : ∀ z M', z ∈ l → LkM M p (dS f l) M' → ∃ us, sel (.str z.1) us ∧ ∀ Y : Cx, Bd P w K mg base CX N (scBlk scope sc) false k Y → WT Y c (putA (wipeA σ (own.map (·.2))) (own.map (·.2)) us) M' fun b M1 => b = t z ∧ LeM M' M1 ∧ (b = true → ∀ Y' : Cx, Bd P w K mg base CX N (scBlk scope sc) false k Y' → WE Y' elt (putA (wipeA σ (own.map (·.2))) (own.map (·.2)) us) M1 fun y M2 => y = v z ∧ LeM M1 M2))
    (q : ∀ G, M G = none → ∀ M', LeM M M' → M' G = some (.lst ((l.filter t).map v)) → D.nx (σ.set iy (some (.ref G))) M') (hs : ∀ x, foldedSetIterable e X.env x = pure x := by intro _; rfl) : WS X (.Assign [.Name y py] (.ListComp elt [⟨tg, e, [c], 0⟩] scope pos) spos) σ M D := by
  refine ws_lock hp fun o xs => ?_
  refine ws_setLc B own hiy hyl hsw hok (Nat.le_refl 1) hg ct ?_ hs
  refine wi_keysL (he0 _ _ ?_)
  refine ⟨p, o, xs, _, rfl, updM_same, ?_⟩
  refine compI_filter l (itm_keyS updM_same hz) t v (fun z u M' hz e l => by subst e; exact he z M' hz (LkM.of l)) fun D hD M' l => ?_
  have Dp : D ≠ p := fun z => by subst z; rw [updM_same] at hD; cases hD
  have lM := (LeM.new hD).trans l
  refine ⟨lM _ _ updM_same, q D (by rw [updM_ne Dp] at hD; exact hD) _ (LeM.unlock hp lM) ?_⟩
  rw [updM_ne Dp]
  exact l _ _ updM_same
/-- y = e where the scope tells that no names are exchanged -/
theorem ws_setQ (B : Bd P w K mg base CX N sc fl k X) {x : Str} {i : Nat} {pos' : Pos} (hi : At N i x) (hx : LocK sc x) (hs : swapsWith e (some (.Name x pos')) pos.line (cenv sc) = pure false) (h : WE X e σ M fun u M1 => D.nx (σ.set i (some u)) M1) (hf : fl = true ∨ sc.names.lookup x = some .local := by first | exact .inl rfl | exact .inr rfl) : WS X (.Assign [.Name x pos'] e pos) σ M D :=
  ws_set B hi hx h hf ((swWith_of (env' := cenv sc) B.esc).trans hs)
theorem oc_listDN {a : Addr} {f : β → VV} {l : List (Str × β)} (hc : X.calm = true) (h : DkAt M a (dS f l)) (q : ∀ p M2, M p = none → LeM M M2 → M2 p = some (.lst ((l.map (·.1)).map .str)) → Q (.ref p) M2) : OC X (.type "list") [.ref a] M Q := by
  refine oc_listD hc h fun p np => ?_
  have el : ((dS f l).map fun z => kW z.1) = (l.map (·.1)).map VV.str := by rw [List.map_map, List.map_map]; rfl
  rw [el]
  exact q p _ np (LeM.new np) updM_same
end G3

set_option Elab.async false
set_option linter.all false
set_option maxRecDepth 100000
set_option maxHeartbeats 4000000
/-! a, b, *c = ..; a = b = ..; a += ..; sum -/
namespace G3
open PySem PySem.Spec PySem.W PyProof.Rows L2
section
variable {X : Cx} {pins : List (Addr × Obj)} {σ : L2.St} {H : Hp} {s : Shared}
theorem Vals.takeD {xs : List V} {us : List Value} (r : Vals xs us) : ∀ n, Vals (xs.take n) (us.take n) ∧ Vals (xs.drop n) (us.drop n) := by
  induction r with
  | nil => intro n; cases n <;> exact ⟨.nil, .nil⟩
  | cons h t ih =>
    intro n
    cases n with
    | zero => exact ⟨.nil, .cons h t⟩
    | succ n => exact ⟨.cons h (ih n).1, (ih n).2⟩
theorem unpackStarT {a : Addr} {xs : List V} {n i : Nat} {Q : List Value → Shared → Prop} (I : Inv X pins σ H s) (hq : SqT X.K H a xs) (hi : i < n) (hn : n ≤ xs.length + 1) (hz : xs.length ≤ 16384) (hc : X.calm = true)
    (h : ∀ D s' (us : List Value), H D = none → Vals xs us → Inv X pins σ (upd H D (.lst ((xs.drop i).take (xs.length + 1 - n)))) s' → Q (us.take i ++ [.ref D] ++ (us.drop i).drop (us.length + 1 - n)) s') : wpAny (model X.prog X.w) X.A (unpackItems (.ref a) n (some i)) Q X.xe s := by
  obtain ⟨us, rv, hl, _⟩ := I.tuple hq
  have hh := I.ok.hd hc
  have hlen : us.length = xs.length := rv.length.symm
  have hsz : us.toArray.size = us.length := List.size_toArray ..
  have hlt : a ≠ s.heap.objs.size := by obtain ⟨o, ho, _⟩ := hl; exact Nat.ne_of_lt (Heap.lt_size ho)
  unfold unpackItems
  refine wpAny_bind ?_
  unfold notIterableAtAll
  refine wpAny_bind (wpAny_specialOf hl.typeIs slot_tuple_iter.lookup ?_)
  refine wpAny_pure ?_
  simp only [Bool.false_eq_true, if_false]
  refine wpAny_bind (wpAny_holding (iter_tuple hl ?_))
  refine wpAny_bind (wpAny_holding (draw_tuple hlt i 0 _ _ ⟨_, Heap.get?_push_size _ rfl, rfl, rfl⟩ (hl.push _) (by omega) fun h₁ hit₁ hs₁ => ?_))
  have hl₁ : IsTup h₁ a us.toArray := (hl.push _).extBut hs₁.extBut hlt
  rw [Nat.zero_add] at hit₁
  have hit₁' := hit₁
  obtain ⟨oi, hoi, _⟩ := hit₁'
  have hl₁' := hl₁
  obtain ⟨ol, hol, _⟩ := hl₁'
  rw [List.drop_zero]
  have el : us.toArray.toList = us := rfl
  rw [el]
  have hfl : (us.take i).length = i := by rw [List.length_take]; omega
  rw [if_neg (show ¬ ((us.take i).length < i) by rw [hfl]; omega)]
  refine wpAny_bind (wpAny_holding (kun_collect (s := { s with heap := h₁ }) (T := "tuple_iterator") (.inr (.inr (.inr rfl))) (Walks.tuple (A := X.A.in1) hh s.heap.objs.size a hlt us.toArray) (fun j u st => st.1.typeIs) (k := i) (by omega) ⟨hit₁, hl₁⟩ (Heap.lt_size hoi) (Heap.lt_size hol) (fun h₂ tk hk => ?_) (by rw [sizeLine_eq]; omega)))
  rw [el]
  have hrl : (us.drop i).length = us.length - i := List.length_drop ..
  have hmid : (us.drop i).length - (n - 1 - i) = us.length + 1 - n := by rw [hrl]; omega
  show wpAny _ _ (if (us.drop i).length < n - 1 - i then _ else _) _ _ _
  rw [if_neg (by rw [hrl]; omega)]
  show wpAny _ _ (newList ((us.drop i).take ((us.drop i).length - (n - 1 - i))) >>= fun d => pure (us.take i ++ [d] ++ (us.drop i).drop ((us.drop i).length - (n - 1 - i)))) _ _ _
  rw [hmid]
  refine wpAny_bind (wpAny_newList ?_ (by rw [List.length_take, sizeLine_eq]; omega))
  have I2 : Inv X pins σ H { s with heap := h₂, toks := tk } := I.kept (t' := tk) fun b o e => hk b o (Nat.ne_of_lt (Heap.lt_size e)) (hs₁.extBut b o (Nat.ne_of_lt (Heap.lt_size e)) (Heap.get?_push_of_some _ e))
  have rm : Vals ((xs.drop i).take (xs.length + 1 - n)) ((us.drop i).take (us.length + 1 - n)) := by rw [hlen]; exact (Vals.takeD (Vals.takeD rv i).2 _).1
  exact wpAny_pure (h _ _ us I2.fresh rv (I2.lnew (t' := tk) rm (by rw [List.length_take, sizeLine_eq]; omega)))
end
section
variable {P : Program} {w : World} {K : PySem.W.Frag} {mg : Str → Option Value} {base : Heap} {CX : CXT} {N : List Str} {sc : Scope} {fl : Bool} {k : Nat} {X : Cx}
variable {e t1 t2 : Expr} {es es' : List Expr} {σ : St3} {M : Mp} {D : En} {pos : Pos} {x y : Str} {i j : Nat} {Q : VQ}
/-- a, b, *c = a tuple -/
theorem wg_starT (B : Bd P w K mg base CX N sc fl k X) {kk n i : Nat} {us : List VV} {R : St3 → Mp → Prop} (hi : i < n) (hn : n ≤ us.length + 1) (hz : us.length ≤ 16384)
    (q : ∀ A, M A = none → WGs X es' (us.take i ++ [.ref A] ++ (us.drop i).drop (us.length + 1 - n)) σ (updM M A (.lst ((us.drop i).take (us.length + 1 - n)))) R)
    (h1 : (assignEach es X.env).length = n := by rfl) (h2 : (assignEach es X.env).findIdx? (·.1) = some i := by rfl) (h3 : (assignEach es X.env).map (·.2) = (assignEach es' X.env).map (·.2) := by rfl) : WG X (.Tuple es kk pos) (.tup us) σ M R := fun σ' H v sl m r => by
  obtain ⟨a, vs, rfl, hq, rvs⟩ := r.tupv
  intro pins s u I ru
  cases ru
  have hl := rvs.length
  rw [assign_Tuple]
  refine wpAny_bind (wpAny_standAt ?_)
  unfold unpack
  rw [h1, h2, h3]
  refine wpAny_bind (wpAny_holding (unpackStarT I hq hi (by omega) (by omega) B.calm fun A s' vals hA rv I' => ?_))
  have q' := q A (m.no hA)
  have tm : TM H (upd H A (.lst ((vs.drop i).take (vs.length + 1 - n)))) := TM.fresh hA
  rw [← hl] at q'
  have m2 := m.putL tm (.inl hA) (Rvs.take (vs.length + 1 - n) (Rvs.drop i rvs))
  have rw2 : Rvs X.K (upd H A (.lst ((vs.drop i).take (vs.length + 1 - n)))) (vs.take i ++ [.ref A] ++ (vs.drop i).drop (vs.length + 1 - n)) (us.take i ++ [.ref A] ++ (us.drop i).drop (vs.length + 1 - n)) :=
    Rvs.append (Rvs.append (Rvs.take i (Rvs.mono tm _ _ rvs)) (.cons (.ref A) .nil)) (Rvs.drop _ (Rvs.drop i (Rvs.mono tm _ _ rvs)))
  have hlv : vals.length = vs.length := rv.length.symm
  have rvv : Vals (vs.take i ++ [V.ref A] ++ (vs.drop i).drop (vs.length + 1 - n)) (vals.take i ++ [Value.ref A] ++ (vals.drop i).drop (vals.length + 1 - n)) := by
    rw [hlv]
    exact ((Vals.takeD rv i).1.append (.cons (show RelV (V.ref A) (Value.ref A) from rfl) .nil)).append (Vals.takeD (Vals.takeD rv i).2 _).2
  exact wGs.mono (q' σ' _ _ (sl.mono tm) m2 rw2) (fun _ _ p => PoS.tr tm p) pins s' _ I' rvv
theorem ws_asg2 (h : WE X e σ M fun u M1 => WG X t1 u σ M1 fun σ1 M2 => WG X t2 u σ1 M2 D.nx) (ha : (assignEach [t1, t2] X.env).map (·.2) = [assign t1 X.env, assign t2 X.env] := by rfl) (hw : swappedStores [t1, t2] e X.env = pure none := by rfl) : WS X (.Assign [t1, t2] e pos) σ M D := fun σ' H s m =>
  wS.of (ps_asg2 wE.pe wG.pg wG.pg ha hw) (h.run s m fun v H1 u M1 t1 m1 r1 s1 q => wG.mono (q σ' H1 v s1 m1 r1) fun σ2 H2 ⟨σ3, M2, t2, s2, m2, q2⟩ => wG.mono (q2 σ2 H2 v s2 m2 (Rv.mono t2 _ _ r1)) fun _ _ p => PoS.tr (t1.trans t2) p)
/-- x += e of numbers -/
theorem ws_augAdd (B : Bd P w K mg base CX N sc fl k X) {pos' : Pos} {n : Int} (hi : At N i x) (hx : LocK sc x) (hs : σ[i]? = some (some (.int n))) (h : WE X e σ M fun u M1 => ∃ j : Int, u = .int j ∧ D.nx (σ.set i (some (.int (n + j)))) M1)
    (hf : fl = true ∨ sc.names.lookup x = some .local := by first | exact .inl rfl | exact .inr rfl) : WS X (.AugAssign (.Name x pos') .Add e pos) σ M D := fun σ' H s m => by
  obtain ⟨v, e1, rv⟩ := s.get i _ hs
  cases rv
  refine wS.of (ps_aug (i := i) (by rw [B.eN]; exact B.nd) (by rw [B.eN]; exact hi.get) (by rw [B.esc]; exact hx) wE.pe ip_add (B.hf hf)) ⟨_, e1, ?_⟩
  refine h.run s m fun v H1 u M1 t1 m1 r1 s1 ⟨j, eu, q⟩ => ?_
  subst eu
  cases r1
  exact ⟨n, j, rfl, rfl, _, _, t1, s1.set i (.int (n + j)), m1, q⟩
/-- {k: v} -/
theorem we_dict1 {ke ve : Expr} (q : ∀ p, M p = none → WE X ke σ (updM M p (.dK [])) fun y M2 => WE X ve σ M2 fun z M3 => M3 p = some (.dK []) ∧ ∃ k, y = kW k ∧ Q (.ref p) (updM M3 p (.dK [(k, z)]))) : WE X (.Dict [some ke] [ve] pos) σ M Q := fun σ' H s m =>
  wE.of (pe_disp (pps_cons wE.pe wE.pe pps_nil) rfl rfl (by simp) (show 1 ≤ 15 by decide)) fun p hp => by
    have t0 : TM H (upd H p (.dK [])) := TM.fresh hp
    refine (q p (m.no hp)).run (s.mono t0) (m.put t0 (.inl hp) (by intro z; cases z) (o := .dK []) ⟨[], upd_same, .nil⟩) fun x H1 y M1 t1 m1 r1 s1 q1 => ?_
    refine q1.run s1 m1 fun v H2 z M3 t2 m2 r2 s2 ⟨e3, k, ey, q3⟩ => ?_
    subst ey
    obtain ⟨xs, hx, rx⟩ := m2 _ _ e3
    cases rx
    have ek : x = kV k := Rv.key r1
    subst ek
    have t3 : TM H2 (upd H2 p (.dK [(k, v)])) := TM.dK hx
    refine ⟨hx, [(k, v)], rfl, (show 1 ≤ 15 by decide), ?_⟩
    exact ⟨.ref p, _, ((t0.trans t1).trans t2).trans t3, m2.put t3 (.inr ⟨_, e3⟩) (by intro z; cases z) (o := .dK [(k, z)]) ⟨_, upd_same, .cons (Rv.mono t3 _ _ r2) .nil⟩, .ref p, q3⟩
theorem oc_sum (hc : X.calm = true) {w : VV} {ns : List Int} (h : Lst M w (ns.map .int)) (q : Q (.int ns.sum) M) : OC X (.builtin "sum") [w] M Q := fun H vs m r => by
  cases r with
  | cons r1 r2 =>
    cases r2
    obtain ⟨a, vs, rfl, h1, h2⟩ := h.v m r1
    rw [h2.ints] at h1
    exact wCall.of (cr_sum hc) ⟨a, ns, rfl, h1, .mk m (.int _) q⟩
end
/-- things laid anew, one for each y -/
structure FrL {α : Type} (M M' : Mp) (rows : List Addr) (ys : List α) (o : α → MO) : Prop where
  len : rows.length = ys.length
  nd : rows.Nodup
  each : ∀ (i : Nat) r y, rows[i]? = some r → ys[i]? = some y → M' r = some (o y)
  new : ∀ r ∈ rows, M r = none
section
variable {α : Type} {M M' M2 : Mp} {rows : List Addr} {ys : List α} {o : α → MO}
theorem FrL.nil : FrL M M' [] ([] : List α) o := ⟨rfl, List.nodup_nil, fun i r y h => (by cases h), fun r h => (by cases h)⟩
theorem FrL.le (h : FrL M M' rows ys o) (l : LeM M' M2) : FrL M M2 rows ys o := ⟨h.len, h.nd, fun i r y a b => l _ _ (h.each i r y a b), h.new⟩
theorem FrL.at (h : FrL M M' rows ys o) {r : Addr} (hr : r ∈ rows) : ∃ u, M' r = some u := by
  obtain ⟨i, hi, rfl⟩ := List.getElem_of_mem hr
  exact ⟨_, h.each i _ _ (List.getElem?_eq_getElem hi) (List.getElem?_eq_getElem (h.len ▸ hi))⟩
theorem FrL.snoc (h : FrL M M' rows ys o) {r : Addr} {y : α} (e : M' r = some (o y)) (n : M r = none) (nr : r ∉ rows) : FrL M M' (rows ++ [r]) (ys ++ [y]) o := by
  refine ⟨by simp [h.len], ?_, fun i r' y' a b => ?_, fun r' hr => ?_⟩
  · rw [List.nodup_append]
    exact ⟨h.nd, by simp, fun x hx z hz ez => by simp at hz; subst hz; subst ez; exact nr hx⟩
  · rcases Nat.lt_or_ge i rows.length with hi | hi
    · rw [List.getElem?_append_left hi] at a
      rw [List.getElem?_append_left (h.len ▸ hi)] at b
      exact h.each i r' y' a b
    · rw [List.getElem?_append_right hi] at a
      rw [List.getElem?_append_right (h.len ▸ hi)] at b
      have : i - rows.length = 0 := by
        rcases Nat.lt_or_ge (i - rows.length) 1 with k | k
        · omega
        · rw [List.getElem?_eq_none (by simpa using k)] at a; cases a
      rw [this] at a
      rw [← h.len, this] at b
      cases a; cases b
      exact e
  · rcases List.mem_append.mp hr with hr | hr
    · exact h.new r' hr
    · simp at hr; subst hr; exact n
/-- without what is written beside the rows -/
theorem FrL.put (h : FrL M M' rows ys o) {p : Addr} {u : MO} (hp : p ∉ rows) : FrL M (updM M' p u) rows ys o :=
  ⟨h.len, h.nd, fun i r y a b => by
    have hne : r ≠ p := fun z => hp (by rw [← z]; exact List.mem_of_getElem? a)
    rw [updM_ne hne]
    exact h.each i r y a b, h.new⟩
end
section
variable {P : Program} {w : World} {K : PySem.W.Frag} {mg : Str → Option Value} {base : Heap} {CX : CXT} {N : List Str} {sc' : Scope} {k : Nat}
variable {elt c : Expr} {own : List Nat} {sel : VV → List VV → Prop} {it : It3} {R : VQ} {σ : St3} {M : Mp} {α : Type}
/-- the elements are things laid anew -/
theorem compI_fresh (xs : List α) {Pz : α → VV → Prop} (hi : Itm it M xs Pz) (t : α → Bool) (o : α → MO)
    (he : ∀ z u M', z ∈ xs → Pz z u → LeM M M' → ∃ us, sel u us ∧ ∀ Y : Cx, Bd P w K mg base CX N sc' false k Y → WT Y c (putA (wipeA σ own) own us) M' fun b M1 => b = t z ∧ LeM M' M1 ∧ (b = true → ∀ Y' : Cx, Bd P w K mg base CX N sc' false k Y' → WE Y' elt (putA (wipeA σ own) own us) M1 fun y M2 => ∃ r, y = .ref r ∧ M1 r = none ∧ LeM M1 M2 ∧ M2 r = some (o z)))
    (q : ∀ D rows M', M D = none → LeM M M' → M' D = some (.lst (rows.map .ref)) → FrL M M' rows (xs.filter t) o → D ∉ rows → R (.ref D) M') : CompI P w K mg base CX N sc' k elt [c] own sel R it σ M := fun D hD => by
  obtain ⟨hn, hitem, hhold, hz⟩ := hi
  refine ⟨fun j M' => ∃ rows, LeM M M' ∧ M' D = some (.lst (rows.map .ref)) ∧ FrL M M' rows ((xs.take j).filter t) o ∧ D ∉ rows, ⟨[], LeM.new hD, updM_same, .nil, by simp⟩, fun j M' _ ⟨_, l, _⟩ => hhold _ l, ?_, ?_⟩
  · rintro j u M' hj hu ⟨rows, l, mD, fr, dr⟩
    obtain ⟨z, hz', pz⟩ := hitem j u hj hu
    obtain ⟨us, hs, hb⟩ := he z u M' (List.mem_of_getElem? hz') pz l
    refine ⟨us, hs, fun Y B => ?_⟩
    refine fun σ' H s m => (hb Y B σ' H s m).mono fun b H1 ⟨M1, t1, m1, hT, l1, hE⟩ => ⟨M1, t1, m1, ?_⟩
    have tk : (xs.take (j + 1)).filter t = (xs.take j).filter t ++ if t z = true then [z] else [] := by
      rw [List.take_add_one, hz', List.filter_append]
      congr 1
      show ([z] : List α).filter t = _
      cases h : t z <;> simp [h]
    cases b with
    | false =>
      refine iteF ?_
      refine ⟨rows, l.trans l1, l1 _ _ mD, ?_, dr⟩
      rw [tk, ← hT, if_neg Bool.false_ne_true, List.append_nil]
      exact fr.le l1
    | true =>
      refine iteT ?_
      intro Y' B'
      refine (hE rfl Y' B').mono fun y M2 ⟨r, ey, nr, l2, mr⟩ => ?_
      subst ey
      have rD : r ≠ D := fun z => by subst z; rw [l1 _ _ mD] at nr; cases nr
      have nrr : r ∉ rows := fun z => by
        obtain ⟨u, hu⟩ := (fr.le l1).at z
        rw [nr] at hu; cases hu
      have nM : M r = none := l.none (l1.none nr)
      refine ⟨_, l2 _ _ (l1 _ _ mD), ?_, rows ++ [r], (l.trans (l1.trans l2)).put hD, by rw [updM_same, List.map_append]; rfl, ?_, ?_⟩
      · have h1 := fr.len
        have h2 : ((xs.take j).filter t).length ≤ (xs.take j).length := List.length_filter_le _ _
        rw [List.length_take] at h2
        rw [List.length_map]
        omega
      · rw [tk, ← hT, if_pos rfl]
        refine FrL.put ?_ ?_
        · exact (fr.le (l1.trans l2)).snoc mr nM nrr
        · intro z
          rcases List.mem_append.mp z with z | z
          · exact dr z
          · simp at z; exact rD z.symm
      · intro z
        rcases List.mem_append.mp z with z | z
        · exact dr z
        · simp at z; exact rD z.symm
  · rintro M' ⟨rows, l, mD, fr, dr⟩
    rw [hn, List.take_length] at fr
    exact q D rows M' hD l mD fr dr
end
theorem itm_keyI {β : Type} {M : Mp} {a : Addr} {L : MO} {f : β → VV} {l : List (Int × β)} (hl : M a = some L) (hz : l.length ≤ sizeLine) : Itm (itKey a L (dI f l)) M l (fun z y => y = .int z.1) where
  n := List.length_map ..
  item := fun j u hj ⟨k, w, hk, e⟩ => by
    rw [List.getElem?_map] at hk
    obtain ⟨z, hz, e2⟩ := Option.map_eq_some_iff.mp hk
    cases e2
    exact ⟨z, hz, e⟩
  hold := fun M' l => l _ _ hl
  size := hz
theorem o2_ninI {N : List Str} {sc : Scope} {fl : Bool} {k : Nat} {P : Program} {w : World} {K : PySem.W.Frag} {mg : Str → Option Value} {base : Heap} {CX : CXT} {β : Type} {f : β → VV} {X : Cx} {M : Mp} {Q : VQ} {a : Addr} {l : List (Int × β)} {n : Int} (B : Bd P w K mg base CX N sc fl k X) (h : DkAt M a (dI f l)) (q : Q (.bl (!(getI l n).isSome)) M) : O2 X (compareOp .NotIn) (.int n) (.ref a) M Q :=
  o2_ninD2 (o := lookW (dI f l) (.inl n)) B (Dg.k (.inl n) h) (by rw [dI_look, Option.isSome_map]; exact q)
theorem FrL.de2 {α : Type} {M1 M2 M' : Mp} {rows rows2 : List Addr} {ys : List α} {f : α → List VV} {p d : Addr} {n : Nat} (h1 : FrL M1 M' rows ys fun y => .lst (f y)) (h2 : FrL M2 M' rows2 ys fun y => .lst (f y)) (e1 : M' p = some (.lst (rows.map .ref))) (e2 : M' d = some (.lst (rows2.map .ref)))
    (hl : ys.length ≤ 100000) (hf : ∀ y ∈ ys, (f y).length ≤ 100000 ∧ ∀ x ∈ f y, DE2 M' n x x) : DE2 M' (n + 2) (.ref p) (.ref d) := by
  refine DE2.lst (.ref e1) (.ref e2) (by rw [List.length_map, List.length_map, h1.len, h2.len]) (by rw [List.length_map, h1.len]; exact hl) fun j x y hx1 hy1 => ?_
  rw [List.getElem?_map] at hx1 hy1
  obtain ⟨r, hr, rfl⟩ := Option.map_eq_some_iff.mp hx1
  obtain ⟨t, ht, rfl⟩ := Option.map_eq_some_iff.mp hy1
  have hj : j < ys.length := by
    rcases Nat.lt_or_ge j ys.length with k | k
    · exact k
    · rw [List.getElem?_eq_none (by rw [h1.len]; exact k)] at hr; cases hr
  have hxj := List.getElem?_eq_getElem hj
  have hm := hf _ (List.getElem_mem hj)
  refine DE2.lst (.ref (h1.each j r _ hr hxj)) (.ref (h2.each j t _ ht hxj)) rfl hm.1 fun i x y hx hy => ?_
  rw [hx] at hy
  cases hy
  exact hm.2 _ (List.mem_of_getElem? hx)
end G3

set_option Elab.async false
set_option linter.all false
set_option maxRecDepth 100000
set_option maxHeartbeats 4000000
/-! C(..) that may raise; texts in order; == of dicts alike and of two lists of them -/
namespace G3
open PySem PySem.Spec PySem.W PyProof.Rows L2
section
variable {X : Cx} {E : Ev} {e : Expr} {es : List Expr} {σ : St3} {M : Mp} {Q : VQ} {pos p : Pos} {x m : Str} {N : List Str} {sc : Scope} {fl : Bool} {k k' n : Nat} {ps : List Str} {sp : SpX} {R : XQ3}
theorem run_makeS {CX : CXT} {f C : Addr} {fd : FuncData} {sp : Sp} {E : XK} {pins : List (Addr × Obj)} {σ : L2.St} {H : Hp} {s : Shared} {Q : VK} {us : List Value} {vs : List V} (M : Mk X.K C f) (F : FnOk X.prog X.w X.K X.mg X.base CX k f fd ps sp) (hr : Room (k + 1) X.A) (hb : Binds X.K fd ps []) (hx : PassesAt CX X σ E)
    (I : Inv X pins σ H s) (r : Vals vs us) (h : ∀ x dx, H x = none → H dx = none → dx ≠ x → sp (.ref x :: vs) (upd (upd H dx (.own x)) x (.ins C dx [])) (fun v H2 => v = .non ∧ Q (.ref x) H2) E) :
    wpAny (model X.prog X.w) X.A (call (.ref C) us) (EP X pins σ Q) X.xe s := by
  have hq := h (s.heap.objs.size + 1) s.heap.objs.size (I.hok.fresh (Nat.le_succ _)) (I.hok.fresh (Nat.le_refl _)) (Nat.ne_of_lt (Nat.lt_succ_self _))
  have I2 := Inv.made (C := C) I
  have r2 : Vals (V.ref (s.heap.objs.size + 1) :: vs) (Value.ref (s.heap.objs.size + 1) :: us) := .cons rfl r
  have hl : (Value.ref (s.heap.objs.size + 1) :: us ++ []).length = ps.length := by
    rw [List.append_nil]
    have e := r2.length
    rw [F.len _ _ _ _ hq] at e
    exact e.symm
  have hb2 := hb { s with heap := _ } (Value.ref (s.heap.objs.size + 1) :: us) I2.kIn hl
  rw [List.append_nil] at hb2
  refine wpAny_call (make_map (f := f) I.kIn M.makes M.init (beq_iff_eq.mp M.fn) (codeAny_mono (F.run _ X.stack _ _ ⟨Value.ref (s.heap.objs.size + 1) :: us, []⟩ (Value.ref (s.heap.objs.size + 1) :: us) _ _ E (hr.make C us [])
    (I2.env0.make C us []) hb2 r2 hq) fun r s' hq' => ?_))
  cases r with
  | error e => exact hx pins _ _ e s' I2 hq'
  | ok fl =>
    cases fl with
    | ret u =>
      obtain ⟨v, H', I3, rv, ev, q3⟩ := I2.after hq'
      subst ev
      exact ⟨rv, ⟨V.ref (s.heap.objs.size + 1), H', I3, rfl, q3⟩⟩
    | next => exact False.elim hq'
    | brk => exact False.elim hq'
    | cont => exact False.elim hq'
theorem we_makeX (hX : E.xc) (B : E.bd N sc fl k X) (Mk' : Mk E.K (He.ga E.K x) (He.ma E.K (He.ga E.K x) "__init__")) (F : E.mtx k' x "__init__" ps sp) (hk : k' + 1 ≤ k) (hg : sc.names.lookup x = some .globalImplicit) (hmg : E.mg x = some (.ref (He.ga E.K x))) (tk : Tk X R)
    (h : WA X (e :: es) σ M fun us M1 => ∀ a, M1 a = none → sp (.ref a :: us) (updM M1 a (.ins (He.ga E.K x) [])) (fun u M2 => u = .non ∧ Q (.ref a) M2) (fun cls d M' => R cls d σ M'))
    (hdb : (x == ("__debug__" : Str)) = false := by decide) (he : starEach (e :: es) X.env = (false, eval e X.env) :: starEach es X.env := by rfl) (hpl : (backTo pos (starEach es X.env)).any (·.1) = false := by rfl) : WE X (.Call (.Name x p) (e :: es) [] pos) σ M Q := by
  obtain ⟨P, w, K, mg, base, CX, hp⟩ := E
  have hX' : CX = L2.CX P w := hX
  subst hX'
  obtain ⟨fd, F1, hb⟩ := F
  obtain ⟨rfl, rfl, rfl, rfl, rfl, rfl, rfl, _, room, pas, _⟩ := B
  obtain ⟨W, tW, hW⟩ := tk
  intro σ' H s mm pins st I
  have t0 := TM.of_inv I
  refine wpAny_Call_Name_kw (ld_glob I hg hmg ?_ hdb)
  refine PySem.W.callWith_K (h₀ := X.base) I.ok.mod.kin Mk'.kp (thn ((wA.pa (X := X) (e := e :: es)).run pos pins st σ' H _ I (h σ' H s mm)) fun us s1 ⟨vs, H1, I1, r, ws, M1, t1, m1, r1, q1⟩ => ⟨I1.kIn, ?_⟩) he hpl
  refine run_makeS (E := fun cls d H => W cls d σ' H) Mk' F1 (room.mono hk) hb (passAt tW σ') I1 r fun a dx ha hd hne => ?_
  obtain ⟨t3, m3⟩ := sim_new (C := He.ga X.K x) m1 ha hd hne
  exact ⟨_, _, _, _, m3, .cons (.ref a) (Rvs.mono t3 _ _ r1), q1 a (m1.no ha), fun u M' v H' ⟨eu, q⟩ t4 m4 r4 => by subst eu; cases r4; exact ⟨rfl, .ref a, M', (t1.trans t3).trans t4, m4, .ref a, q⟩,
    fun cls d M' H' q t4 m4 => hW cls d σ' σ H' M' (t0.trans ((t1.trans t3).trans t4)) (s.mono ((t1.trans t3).trans t4)) m4 q⟩
end
section
variable {X : Cx} {M : Mp} {Q : VQ}
theorem o2_leS {i j : Str} (q : Q (.bl (!decide (j.cps.toList < i.cps.toList))) M) : O2 X (compareOp .LtE) (.str i) (.str j) M Q := fun H v u m r1 r2 => by
  cases r1; cases r2; exact wOp.of op_le_str ⟨i, j, rfl, rfl, .mk m (.bl _) q⟩
/-- all that stands in it is data -/
def Dat (M : Mp) (n : Nat) (kvs : List (Key × VV)) : Prop := (kvs.map (·.1)).Nodup ∧ ∀ p ∈ kvs, ∃ d, DW M p.2 d ∧ d.plain = true ∧ d.depth ≤ n ∧ PyData.eqv d d = true
theorem look_self {kvs : List (Key × VV)} (nd : (kvs.map (·.1)).Nodup) {k : Key} {w : VV} (h : (k, w) ∈ kvs) : lookW kvs k = some w := by
  unfold lookW
  induction kvs with
  | nil => cases h
  | cons q l ih =>
    rw [List.find?_cons]
    simp only [List.map_cons, List.nodup_cons] at nd
    rcases List.mem_cons.mp h with e | h'
    · subst e; simp
    · have : ¬ (q.1 = k) := fun z => nd.1 (List.mem_map.mpr ⟨(k, w), h', z.symm⟩)
      rw [decide_eq_false this]
      exact ih nd.2 h'
theorem datS_hits {X : Cx} {M : Mp} {H : Hp} {s : Shared} {pins : List (Addr × Obj)} {σ : L2.St} {A : Around} {n : Nat} {kvs : List (Key × VV)} {ls : List (Key × V)} {vb : List (Key × Value)} (I : Inv X pins σ H s) (m : SimM X.K M H) (hu : A.units + n < cLine) (hd : Dat M n kvs)
    (rl : Rkv X.K H ls kvs) (rb : KV ls vb) : ∀ (l : List (Key × VV)) (ks : List (Key × V)) (va : List (Key × Value)), (∀ p ∈ l, p ∈ kvs) → KV ks va → Rkv X.K H ks l → KeqHitsP X.prog X.w A s vb va true
  | [], ks, va, _, ra, rk => by
    cases rk
    unfold KV at ra
    cases ra
    exact .nil
  | (k, b) :: l, ks, va, sub, ra, rk => by
    cases rk with
    | @cons _ v _ ks' _ hv rk' =>
      unfold KV at ra
      cases ra with
      | @cons _ q _ va' hq ra' =>
        obtain ⟨k', u⟩ := q
        obtain ⟨e1, ru⟩ := hq
        have e1 : k = k' := e1
        subst e1
        have ih := datS_hits I m hu hd rl rb l ks' va' (fun p hp => sub p (by simp [hp])) ra' rk'
        have hmem := sub (k, b) (by simp)
        obtain ⟨d, dw, pl, dep, eqd⟩ := hd.2 _ hmem
        obtain ⟨z, ez, rz⟩ := (rl.val k).1 _ (look_self hd.1 hmem)
        have rr := rb.val k
        rw [ez] at rr
        obtain ⟨y, hy, ry⟩ := rr.some_of
        obtain ⟨as, r1⟩ := Dp.reads I _ _ _ (dw.dp m _ _ _ hv) ru
        obtain ⟨bs, r2⟩ := Dp.reads I _ _ _ (dw.dp m _ _ _ rz) ry
        have eq := (SeqAt.eqAt_plain _ _ A s _ _ _ _ r1 r2 pl pl (by omega)).eqP (prog := X.prog) (w := X.w)
        rw [eqd] at eq
        exact .hit hy eq ih
theorem datS_run {X : Cx} {M : Mp} {H : Hp} {s : Shared} {pins : List (Addr × Obj)} {σ : L2.St} {A : Around} {a b : Addr} {n : Nat} {kvs : List (Key × VV)} (I : Inv X pins σ H s) (m : SimM X.K M H) (hu : A.units + 1 + n < cLine) (ha : M a = some (.dK kvs)) (hb : M b = some (.dK kvs)) (hd : Dat M n kvs)
    (E Q : Value → Shared → Prop) (q : Q (.bool true) s) : wpAny (model X.prog X.w) A (richCompare .Eq (.ref a) (.ref b)) Q E s := by
  obtain ⟨ks, ha, rk⟩ := m _ _ ha
  obtain ⟨ls, hb, rl⟩ := m _ _ hb
  obtain ⟨_, ya, va, ra, da⟩ := (show ObjOk X.prog X.w H s.heap a (.dK ks) from I.hok a _ ha)
  obtain ⟨_, yb, vb, rb, db⟩ := (show ObjOk X.prog X.w H s.heap b (.dK ls) from I.hok b _ hb)
  refine PySem.W.rcP_dicts (knd := mixKind X.prog X.w) ya yb da db (by omega) (fun _ => datS_hits I m (A := A.in1) (by show A.units + 1 + _ < _; omega) hd rl rb kvs ks va (fun _ h => h) ra rk) E Q ?_
  have e1 : va.length = kvs.length := by rw [← ra.length, rk.len]
  have e2 : vb.length = kvs.length := by rw [← rb.length, rl.len]
  rw [e1, e2]
  simpa using q
/-- [a, b] == [c, d], dicts alike -/
theorem o2_eqTwo {u v : VV} {a b c d : Addr} {n : Nat} {k1 k2 : List (Key × VV)} (hu : X.A.units + 3 + n < cLine) (h1 : Lst M u [.ref a, .ref b]) (h2 : Lst M v [.ref c, .ref d]) (ha : M a = some (.dK k1)) (hb : M b = some (.dK k2)) (hc : M c = some (.dK k1)) (hd : M d = some (.dK k2)) (ac : a ≠ c) (bd : b ≠ d)
    (d1 : Dat M n k1) (d2 : Dat M n k2) (q : Q (.bl true) M) : O2 X (compareOp .Eq) u v M Q := fun H v1 u1 m r1 r2 pins s σ w1 w2 I z1 z2 => by
  obtain ⟨p1, vs1, rfl, g1, t1⟩ := h1.v m r1
  obtain ⟨p2, vs2, rfl, g2, t2⟩ := h2.v m r2
  cases z1; cases z2
  cases t1 with | cons x1 t1 =>
  cases t1 with | cons x2 t1 =>
  cases t1
  cases t2 with | cons y1 t2 =>
  cases t2 with | cons y2 t2 =>
  cases t2
  cases x1; cases x2; cases y1; cases y2
  obtain ⟨us, ru, pu, _⟩ := I.list g1
  obtain ⟨ws, rw, pw, _⟩ := I.list g2
  cases ru with | cons a1 ru =>
  cases ru with | cons a2 ru =>
  cases ru
  cases rw with | cons b1 rw =>
  cases rw with | cons b2 rw =>
  cases rw
  cases a1; cases a2; cases b1; cases b2
  refine SeqAt.rcP_lists (e := fun _ => true) pu.isList pw.isList rfl (by omega) (fun j h1 h2 => ?_) _ _ ?_
  · have hj : j < 2 := h1
    rcases (show j = 0 ∨ j = 1 by omega) with rfl | rfl
    · exact SeqAt.eqP_refs ac fun E Q q => datS_run I m (A := X.A.in1) (by show X.A.units + 1 + 1 + n < _; omega) ha hc d1 E Q q
    · exact SeqAt.eqP_refs bd fun E Q q => datS_run I m (A := X.A.in1) (by show X.A.units + 1 + 1 + n < _; omega) hb hd d2 E Q q
  · exact ⟨.bl true, H, I, rfl, .mk m (.bl _) q⟩
end
end G3

set_option Elab.async false
set_option linter.all false
set_option maxRecDepth 100000
set_option maxHeartbeats 4000000
/-! max, pop, clear, != {} of dicts; dict of pairs; t + u; own == against a dict; in by an own == -/
namespace G3
open PySem PySem.Spec L2 PyProof.Rows
section
variable {X : Cx} {o e : Expr} {σ : St3} {M : Mp} {Q : VQ} {β : Type} {a : Addr}
/-- max(d), the keys whole numbers -/
theorem oc_maxDI (hc : X.calm = true) {f : β → VV} {l : List (Int × β)} (h : DkAt M a (dI f l)) (hn : l ≠ []) (q : ∀ m, m ∈ l.map (·.1) → (∀ y ∈ l.map (·.1), y ≤ m) → Q (.int m) M) : OC X (.builtin "max") [.ref a] M Q := fun H vs m r => by
  cases r with | cons r1 r2 =>
  cases r2; cases r1
  obtain ⟨gs, e, rg⟩ := h.v m
  intro pins s σ us I rr
  obtain ⟨u, rfl, ru⟩ := vals1 rr
  cases ru
  obtain ⟨z, lo, vs, rel, dd⟩ := dk_rd I.hok e
  obtain ⟨ep, hat⟩ := dd.dictAt
  let ns := l.map (·.1)
  have hk : vs.map (·.1) = ns.map Sum.inl := by
    rw [← rel.keys, rg.keys]
    exact dI_keys f l
  have hlen : vs.length = ns.length := by
    have := congrArg List.length hk
    rw [List.length_map, List.length_map] at this
    exact this
  have hpos : 0 < ns.length := by
    show 0 < (l.map (·.1)).length
    rw [List.length_map]
    exact List.length_pos_iff.mpr hn
  have hval : ∀ i v, (∃ k x, vs[i]? = some (k, x) ∧ (mixKind X.prog X.w).is k v = true) → ∃ t, v = .int (ns.getD i 0) t := fun i v ⟨k, x, hi, hk2⟩ => by
    have h1 : (vs.map (·.1))[i]? = some k := by rw [List.getElem?_map, hi]; rfl
    rw [hk, List.getElem?_map] at h1
    obtain ⟨n, hn1, rfl⟩ := Option.map_eq_some_iff.mp h1
    have : ns.getD i 0 = n := by rw [List.getD_eq_getElem?_getD, hn1]; rfl
    rw [this]
    exact keyIs_rel (k := .inl n) hk2
  refine call_max_walk ?_
  refine wpAny_pyIter_dict lo hat ?_
  have ha : a < s.heap.objs.size := hat.lt_size
  refine ⟨s.heap.objs.size, [s.heap.objs.size, a], [s.heap.objs.size], vs.length, _, _, fun i j => decide (ns.getD i 0 > ns.getD j 0), rfl, Walks.dictKeys (knd := mixKind X.prog X.w) (show X.A.in1.handled = none from I.ok.hd hc) _ a (Nat.ne_of_lt ha) vs ep, ⟨⟨_, Heap.get?_push_size _ rfl, rfl, rfl⟩, hat.push _⟩, fun b hb => ?_, by omega, CmpOf.ints_gt (fun i => ns.getD i 0) hval, fun v h' tk hv' hk => ?_⟩
  · show b < (s.heap.push _).objs.size
    rw [size_push']
    rcases List.mem_cons.mp hb with z | z
    · rw [z]
      exact Nat.lt_succ_self _
    · rw [List.mem_singleton.mp z]
      exact Nat.lt_succ_of_lt ha
  · obtain ⟨t, rfl⟩ := hval _ _ hv'
    obtain ⟨m1', m2'⟩ := argBest_gt (fun i => ns.getD i 0) (vs.length - 1)
    have m1 : argBest (fun i j => decide (ns.getD i 0 > ns.getD j 0)) (vs.length - 1) ≤ vs.length - 1 := m1'
    have m2 : ∀ j, j ≤ vs.length - 1 → ns.getD j 0 ≤ ns.getD (argBest (fun i j => decide (ns.getD i 0 > ns.getD j 0)) (vs.length - 1)) 0 := m2'
    have hk2 : ∀ b o, s.heap.get? b = some o → h'.get? b = some o := fun b o e => hk b o (fun z => by rw [List.mem_singleton.mp z] at e; exact absurd (Heap.lt_size e) (Nat.lt_irrefl _)) (Heap.get?_push_of_some _ e)
    refine ⟨.int _, H, I.kept (t' := tk) hk2, ⟨t, rfl⟩, .mk m (.int _) (q _ (PySem.getD_mem (show _ < ns.length by omega)) fun y hy => ?_)⟩
    obtain ⟨j, hj, e⟩ := List.mem_iff_getElem.mp (show y ∈ ns from hy)
    have z := m2 j (by omega)
    have e3 : ns.getD j 0 = y := by rw [List.getD_eq_getElem?_getD, List.getElem?_eq_getElem hj, ← e] <;> rfl
    rw [e3] at z
    exact z
/-- d.pop(k), k there -/
theorem we_dpop {apos cpos : Pos} (h : WE X o σ M fun u M1 => ∃ a kv0, u = .ref a ∧ M1 a = some (.dK kv0) ∧ WE X e σ M1 fun y M2 => ∃ kvs k w, M2 a = some (.dK kvs) ∧ y = kW k ∧ lookW kvs k = some w ∧ Q w (updM M2 a (.dK (cutK kvs k))))
    (m1 : attributeBase o "pop" X.env (eval o X.env) = eval o X.env := by rfl)
    (m2 : ((backTo cpos (starEach [e] X.env)).all (fun x => !x.1) && (backToKw cpos (keywordEach [] X.env)).all (fun x => x.1.isSome)
      && decide (([e] : List Expr).length + ([] : List Keyword).length + (if ([] : List Keyword).isEmpty then 0 else 1) < 30)) = true := by rfl)
    (m3 : (apos.endLine == cpos.line) = true := by rfl) (m4 : backTo cpos (starEach [e] X.env) = [(false, eval e X.env)] := by rfl) :
    WE X (.Call (.Attribute o "pop" apos) [e] [] cpos) σ M Q := fun σ' H s m =>
  wE.of (pe_dpop1 wE.pe wE.pe ⟨m1, m2, m3, m4⟩) (h.run s m fun v H1 u M1 t1 m1 r1 s1 ⟨a, kv0, e1, e2, q1⟩ => by
    subst e1; cases r1
    obtain ⟨gs0, h0, _⟩ := m1 _ _ e2
    refine ⟨a, rfl, .inl ⟨gs0, .inl h0⟩, q1.run s1 m1 fun v2 H2 y M2 t2 m2 r2 s2 ⟨kvs, k, w, e3, ey, lk, q2⟩ => ?_⟩
    subst ey
    obtain ⟨gs, h3, rk⟩ := m2 _ _ e3
    have ek := Rv.key r2
    subst ek
    obtain ⟨v', e', rw'⟩ := (rk.val k).1 w lk
    have t := TM.dK (ho := .dK (dropK gs k)) h3
    exact ⟨gs, k, v', h3, rfl, e', w, _, (t1.trans t2).trans t, m2.put (p := a) (o := .dK (cutK kvs k)) t (.inr ⟨_, e3⟩) (by intro z; cases z) ⟨_, upd_same, (rk.cut k).mono t⟩, Rv.mono t _ _ rw', q2⟩)
/-- d.clear() -/
theorem we_dclear {apos cpos : Pos} (h : WE X o σ M fun u M1 => ∃ a kvs, u = .ref a ∧ M1 a = some (.dK kvs) ∧ Q .non (updM M1 a (.dK [])))
    (hbase : attributeBase o "clear" X.env (eval o X.env) = eval o X.env := by rfl) (hline : (apos.endLine == cpos.line) = true := by rfl) : WE X (.Call (.Attribute o "clear" apos) [] [] cpos) σ M Q := fun σ' H s m =>
  wE.of (pe_dclear wE.pe hbase hline) (h.run s m fun v H1 u M1 t1 m1 r1 s1 ⟨a, kvs, e1, e2, q⟩ => by
    subst e1; cases r1
    obtain ⟨gs, h0, rk⟩ := m1 _ _ e2
    have t := TM.dK (ho := .dK []) h0
    exact ⟨.inr (.inr (.inl ⟨rfl, .inl ⟨gs, h0⟩⟩)), a, gs, rfl, rfl, h0, .non, _, t1.trans t, m1.put (p := a) (o := .dK []) t (.inr ⟨_, e2⟩) (by intro z; cases z) ⟨[], upd_same, .nil⟩, .non, q⟩)
/-- d != {} -/
theorem o2_neDE {a b : Addr} {kvs : List (Key × VV)} (hu : X.A.units < cLine) (ha : M a = some (.dK kvs)) (hb : M b = some (.dK [])) (q : Q (.bl (!kvs.isEmpty)) M) : O2 X (compareOp .NotEq) (.ref a) (.ref b) M Q := fun H v u m r1 r2 pins s σ v1 u1 I z1 z2 => by
  cases r1; cases r2; cases z1; cases z2
  obtain ⟨ks, ha, rk⟩ := m _ _ ha
  obtain ⟨ls, hb, rl⟩ := m _ _ hb
  cases rl
  obtain ⟨_, ya, va, ra, da⟩ := (show ObjOk X.prog X.w H s.heap a (.dK ks) from I.hok a _ ha)
  obtain ⟨_, yb, vb, rb, db⟩ := (show ObjOk X.prog X.w H s.heap b (.dK []) from I.hok b _ hb)
  have e1 : va.length = kvs.length := by rw [← ra.length, rk.len]
  have e2 : vb.length = 0 := by rw [← rb.length]; rfl
  refine PySem.W.keq_ne (knd := mixKind X.prog X.w) (r := true) ya yb da db hu (fun hl => ?_) ?_
  · have : va = [] := List.eq_nil_of_length_eq_zero (by omega)
    subst this
    exact .nil
  · have : (!(va.length == vb.length && true)) = !kvs.isEmpty := by
      rw [e1, e2]
      cases kvs <;> rfl
    rw [this]
    exact ⟨.bl _, H, I, rfl, .mk m (.bl _) q⟩
/-- t + u of tuples -/
theorem o2_catT {xs ys : List VV} (hx : xs ≠ []) (hz : xs.length + ys.length ≤ sizeLine) (q : Q (.tup (xs ++ ys)) M) : O2 X (binaryOp .Add) (.tup xs) (.tup ys) M Q := fun H v u m r1 r2 => by
  obtain ⟨a, vs, rfl, h1, h2⟩ := r1.tupv
  obtain ⟨b, us, rfl, h3, h4⟩ := r2.tupv
  refine wOp.of op_catT ⟨a, b, vs, us, rfl, rfl, h1, h3, fun z => ?_, by rw [h2.length, h4.length]; exact hz, fun z => ?_, fun _ p hp => ?_⟩
  · subst z
    cases h2
    exact hx rfl
  · subst z
    cases h4
    rw [List.append_nil] at q
    exact ⟨_, M, TM.refl, m, .tup h1 h2, q⟩
  · exact ⟨.tup (xs ++ ys), M, TM.fresh hp, m.alloc hp, .tup (SqT.of upd_same) (Rvs.mono (TM.fresh hp) _ _ (h2.append h4)), q⟩
end
end G3

set_option Elab.async false
set_option linter.all false
set_option maxRecDepth 100000
set_option maxHeartbeats 4000000
/-! the law's own lettering: promises, plain laws -/
namespace G3
open PySem PySem.Spec L2 PySem.W
theorem PB.of {b : Bx} (h : PB b) : b.1 ≤ b.2.2.1 ∧ b.2.1 ≤ b.2.2.2 := h
/-- those under others, then those that stand -/
def ordL (pr : Str → Pt) (ns : List Str) : List Str := ns.filter (fun n => !isSt pr ns n) ++ ns.filter (isSt pr ns)
theorem filter_perm {α : Type} (t : α → Bool) : ∀ l : List α, (l.filter (fun n => !t n) ++ l.filter t).Perm l
  | [] => .nil
  | a :: l => by
    have ih := filter_perm t l
    cases h : t a with
    | true =>
      rw [List.filter_cons, List.filter_cons, h]
      simp only [Bool.not_true, Bool.false_eq_true, if_false, if_true]
      exact List.perm_middle.trans (ih.cons a)
    | false =>
      rw [List.filter_cons, List.filter_cons, h]
      simp only [Bool.not_false, if_true, Bool.false_eq_true, if_false]
      exact ih.cons a
theorem erase_perm {α : Type} {l : List α} {j : Nat} (h : j < l.length) : (l[j] :: l.eraseIdx j).Perm l := by
  rw [List.eraseIdx_eq_take_drop_succ]
  have e : l = l.take j ++ l[j] :: l.drop (j + 1) := by rw [← List.drop_eq_getElem_cons h, List.take_append_drop]
  conv => rhs; rw [e]
  exact List.perm_middle.symm
theorem ordL_perm (pr : Str → Pt) (ns : List Str) : (ordL pr ns).Perm ns := filter_perm _ ns
theorem putW_last {κ : Type} [DecidableEq κ] {kvs : List (κ × VV)} {k : κ} {v w : VV} (h : lookW kvs k = none) : putW (kvs ++ [(k, v)]) k w = kvs ++ [(k, w)] := by
  have hn : ∀ q ∈ kvs, q.1 ≠ k := fun q hq e => by
    unfold lookW at h
    rw [Option.map_eq_none_iff, List.find?_eq_none] at h
    exact h q hq (decide_eq_true e)
  unfold putW
  rw [if_pos (by rw [List.any_append]; simp), List.map_append]
  congr 1
  · conv => rhs; rw [← List.map_id kvs]
    refine List.map_congr_left fun q hq => ?_
    rw [if_neg (hn q hq)]; rfl
  · simp
theorem take_before {S : List Str} (hn : S.Nodup) {i : Nat} {n : Str} (h : S[i]? = some n) : S.takeWhile (fun m => decide (m ≠ n)) = S.take i := by
  have := stand_before (t := fun _ => true) hn h rfl
  rw [List.filter_eq_self.2 (fun _ _ => rfl), List.filter_eq_self.2 (fun _ _ => rfl)] at this
  exact this
theorem headAt_filter (st : List (Str × Pt)) (p : Pt) : headAt st p = ((st.filter fun z => decide (z.2 = p)).map (·.1)).head? := by
  unfold headAt
  rw [List.head?_map, List.head?_filter]
theorem Psk.unl {M M' : Mp} {ps : Str → Addr} {lt : Str → Lt} {ns : List Str} {p : Addr} {o : MO} {ob : Obj} {xs : List (Key × V)} {kvs : List (Key × VV)} (h : Psk M M' ps lt ns) (e : M' p = some (.lk ob xs kvs)) : Psk M (updM M' p o) ps lt ns :=
  ⟨fun n hn bs eb => ⟨by rw [updM_ne (fun z => by have := (h.at_ n hn bs eb).1; rw [z, e] at this; cases this)]; exact (h.at_ n hn bs eb).1, (h.at_ n hn bs eb).2⟩, h.ap⟩
/-! promises -/
def spSideBox : Sp3 := fun ws M Q => ∃ (p : Pt) (n : Str) (t : Int) (k : Nat), ws = [vpf p, .str n, .int t, .int k] ∧ k < 4 ∧ n.length ≤ 100 ∧ 0 ≤ t ∧ t ≤ 1000 ∧ ∀ M', LeM M M' → Q (vbx (sideF p n t k)) M'
def spFirstBar : Sp3 := fun ws M Q => ∃ (n : Str) (b : Bx) (s x : Addr) (o : Obj) (xs : List (Key × V)) (st : List (Str × Pt)) (bx : List (Str × Bx)), ws = [.str n, vbx b, .ref s, .ref x] ∧ M s = some (.lk o xs (dS vpf st)) ∧ M x = some (.dK (dS vbx bx)) ∧ (st.map (·.1)).Nodup ∧ (bx.map (·.1)).Nodup ∧ PB b ∧ (∀ z ∈ bx, PB z.2) ∧ Q (vbar (barF n b st bx)) M
def spLLett (P : Addr) : Sp3 := fun ws M Q => ∃ (d : Addr) (l : Sites) (t : Int), ws = [.ref d, .int t] ∧ M d = some (.dK (dS vsi l)) ∧ M P = some (.tab (lamQ "_law_lettered")) ∧ SiOk l t ∧
  ∀ r ps M2, M r = none → LeM M M2 → M2 r = some (.dK (lettK ps (ltOf (prF l) t (ordF l)) (ordL (prF l) (ordF l)))) → Psk M M2 ps (ltOf (prF l) t (ordF l)) (ordL (prF l) (ordF l)) → Q (.ref r) M2
def spMix : Sp3 := fun ws M Q => ∃ (α : Type) (v : α → VV) (b : Addr) (w : VV) (xs : List α), ws = [.ref b, w] ∧ M b = some .bag ∧ Lst M w (xs.map v) ∧ xs.length ≤ 200 ∧ ∀ p (ys : List α) M2, M p = none → LeM M M2 → ys.Perm xs → M2 p = some (.lst (ys.map v)) → Q (.ref p) M2
def spLSites : Sp3 := fun ws M Q => ∃ (b : Addr), ws = [.ref b] ∧ M b = some .bag ∧ ∀ (l : Sites) p M2, M p = none → LeM M M2 → M2 p = some (.dK (dS vsi l)) → (l.map (·.1)).Nodup → l ≠ [] → l.length ≤ 8 → (∀ q ∈ l, Nme q.1) → Q (.ref p) M2
end G3

set_option Elab.async false
set_option linter.all false
set_option maxRecDepth 100000
set_option maxHeartbeats 4000000
/-! lettering: what the law compares -/
namespace G3
open PySem PySem.Spec L2 PySem.W
def keyQ (l : Sites) : List (Key × Sit) := l.map fun p => ((Sum.inr p.1 : Key), p.2)
theorem dw_vsi {M : Mp} (q : Sit) : DW M (vsi q) (Datum.toD q) := .tup (.cons (.ftp (.cons (.int _) (.cons (.int _) .nil))) (.cons (.int _) .nil))
theorem dS_keyQ (l : Sites) : dS vsi l = dG vsi (keyQ l) := dS_dG _ _
theorem keyQ_look (l : Sites) (n : Str) : lookB (keyQ l) (.inr n) = getS l n := by
  unfold lookB getS keyQ
  rw [List.find?_map, Option.map_map]
  have : ((fun q : Key × Sit => decide (q.1 = Sum.inr n)) ∘ fun p : Str × Sit => ((Sum.inr p.1 : Key), p.2)) = fun p => decide (p.1 = n) := by
    funext p
    exact decide_eq_decide.mpr ⟨fun h => Sum.inr.inj h, fun h => congrArg _ h⟩
  rw [this]
  rfl
/-- the same sites, perhaps in another order -/
structure SameS (h l : Sites) : Prop where
  k : (h.map (·.1)).Perm (l.map (·.1))
  g : ∀ n, getS h n = getS l n
def handF (l : Sites) (ns : List Str) : Sites := ns.map fun n => (n, (prF l n, rankF l n))
theorem hand_keys (l : Sites) (ns : List Str) : (handF l ns).map (·.1) = ns := by unfold handF; rw [List.map_map]; exact List.map_id ns
theorem site_get {l : Sites} {n : Str} (h : n ∈ l.map (·.1)) : getS l n = some (prF l n, rankF l n) := by
  obtain ⟨q, hq⟩ := Option.isSome_iff_exists.mp (getS_isSome.mpr h)
  unfold prF rankF
  rw [hq]; rfl
theorem hand_same {l : Sites} {ns : List Str} (hn : (l.map (·.1)).Nodup) (h : ns.Perm (l.map (·.1))) : SameS (handF l ns) l := by
  have hk := hand_keys l ns
  refine ⟨by rw [hk]; exact h, fun n => ?_⟩
  by_cases hm : n ∈ l.map (·.1)
  · rw [site_get hm]
    exact getS_of (by rw [hk]; exact h.nodup_iff.mpr hn) (List.mem_map.mpr ⟨n, h.mem_iff.mpr hm, rfl⟩)
  · have e : ∀ {z : Sites}, n ∉ z.map (·.1) → getS z n = none := fun {z} hz => by
      cases q : getS z n with
      | none => rfl
      | some b => exact absurd (getS_isSome.mp (by rw [q]; rfl)) hz
    rw [e hm, e (by rw [hk]; exact fun z => hm (h.mem_iff.mp z))]
theorem SameS.pr {h l : Sites} (s : SameS h l) : prF h = prF l := by funext n; unfold prF; rw [s.g]
theorem SameS.rank {h l : Sites} (s : SameS h l) : rankF h = rankF l := by funext n; unfold rankF; rw [s.g]
theorem SameS.ord {h l : Sites} (s : SameS h l) : ordF h = ordF l := by
  unfold ordF
  rw [s.rank]
  exact srtBy_congr s.k fun _ _ => rfl
theorem SameS.eq {h l : Sites} (s : SameS h l) (hn : (l.map (·.1)).Nodup) : eqDF (keyQ h) (keyQ l) = true := by
  unfold eqDF
  rw [Bool.and_eq_true, beq_iff_eq]
  have hl := s.k.length_eq
  rw [List.length_map, List.length_map] at hl
  refine ⟨by unfold keyQ; rw [List.length_map, List.length_map, hl], List.all_eq_true.mpr fun p hp => ?_⟩
  obtain ⟨q, hq, rfl⟩ := List.mem_map.mp hp
  rw [decide_eq_true_eq, keyQ_look, ← s.g]
  exact getS_of (s.k.nodup_iff.mpr hn) hq
theorem SameS.ok {h l : Sites} {t : Int} (s : SameS h l) (o : SiOk l t) : SiOk h t := by
  have hl := s.k.length_eq
  rw [List.length_map, List.length_map] at hl
  refine ⟨s.k.nodup_iff.mpr o.d, by rw [hl]; exact o.len, fun p hp => ?_, o.t0, o.t1⟩
  have h1 : p.1 ∈ l.map (·.1) := s.k.mem_iff.mp (List.mem_map.mpr ⟨p, hp, rfl⟩)
  obtain ⟨q, hq, e⟩ := List.mem_map.mp h1
  rw [← e]; exact o.nm q hq
theorem ltOf_len {pr : Str → Pt} {t : Int} {ns : List Str} {n : Str} {bs : List (Option Bar)} (h : ltOf pr t ns n = .barred bs) : bs.length = 4 := by
  unfold ltOf oneF at h
  split at h
  · split at h
    · cases h
    · cases h; rfl
  · cases h
theorem de_two {M : Mp} {n : Nat} {a b c d : VV} (h1 : DE2 M n a c) (h2 : DE2 M n b d) : DE2 M (n + 1) (.tup [a, b]) (.tup [c, d]) := .tup rfl (by show 2 ≤ 100000; decide) fun j x y e1 e2 => by
  match j, e1, e2 with
  | 0, e1, e2 => cases e1; cases e2; exact h1
  | 1, e1, e2 => cases e1; cases e2; exact h2
  | j + 2, e1, _ => exact absurd e1 (by simp)
theorem de_three {M : Mp} {n : Nat} {a b c d e f : VV} (h1 : DE2 M n a d) (h2 : DE2 M n b e) (h3 : DE2 M n c f) : DE2 M (n + 1) (.tup [a, b, c]) (.tup [d, e, f]) := .tup rfl (by show 3 ≤ 100000; decide) fun j x y e1 e2 => by
  match j, e1, e2 with
  | 0, e1, e2 => cases e1; cases e2; exact h1
  | 1, e1, e2 => cases e1; cases e2; exact h2
  | 2, e1, e2 => cases e1; cases e2; exact h3
  | j + 3, e1, _ => exact absurd e1 (by simp)
theorem de_four {M : Mp} {n : Nat} {a b c d e f g h : VV} (h1 : DE2 M n a e) (h2 : DE2 M n b f) (h3 : DE2 M n c g) (h4 : DE2 M n d h) : DE2 M (n + 1) (.tup [a, b, c, d]) (.tup [e, f, g, h]) := .tup rfl (by show 4 ≤ 100000; decide) fun j x y e1 e2 => by
  match j, e1, e2 with
  | 0, e1, e2 => cases e1; cases e2; exact h1
  | 1, e1, e2 => cases e1; cases e2; exact h2
  | 2, e1, e2 => cases e1; cases e2; exact h3
  | 3, e1, e2 => cases e1; cases e2; exact h4
  | j + 4, e1, _ => exact absurd e1 (by simp)
theorem de_bx {M : Mp} {n : Nat} (b : Bx) : DE2 M (n + 1) (vbx b) (vbx b) := de_four (.int _ _ _) (.int _ _ _) (.int _ _ _) (.int _ _ _)
theorem de_bar {M : Mp} {n : Nat} (b : Option Bar) : DE2 M (n + 1) (vbar b) (vbar b) := by
  cases b with
  | none => exact .non _ _
  | some q => exact de_two (.str _ _ _) (.str _ _ _)
theorem de_lett {M : Mp} {F D : Addr} {ps ps' : Str → Addr} {lt : Str → Lt} {ns ns' : List Str} (hF : M F = some (.dK (lettK ps lt ns))) (hD : M D = some (.dK (lettK ps' lt ns'))) (ne : F ≠ D) (nd : ns.Nodup) (pm : ns.Perm ns') (len : ns.length < 64)
    (p1 : ∀ n ∈ ns, ∀ bs, lt n = .barred bs → M (ps n) = some (.lst (bs.map vbar)) ∧ bs.length ≤ 100) (p2 : ∀ n ∈ ns', ∀ bs, lt n = .barred bs → M (ps' n) = some (.lst (bs.map vbar))) : DE2 M 4 (.ref F) (.ref D) := by
  refine .dic hF hD ne (by rw [List.map_map, List.map_map]; exact .str pm len) (fun k y hm => ?_) fun k y x hm e => ?_
  · obtain ⟨n, hn, e⟩ := List.mem_map.mp hm
    cases e
    exact ⟨⟨_, lett_get (pm.mem_iff.mpr hn)⟩, lett_get hn⟩
  · obtain ⟨n, hn, e2⟩ := List.mem_map.mp hm
    cases e2
    have hn1 := pm.mem_iff.mpr hn
    rw [lett_get hn1] at e
    cases e
    have dr : ∀ {p : Addr} {xs : List VV}, M p = some (.lst xs) → dropM M D p = some (.lst xs) := fun {p xs} h => by
      unfold dropM
      rw [if_neg (fun z => by subst z; rw [hD] at h; cases h)]
      exact h
    cases hl : lt n with
    | under o => exact de_two (.str _ _ _) (.str _ _ _)
    | laid k b => exact de_three (.str _ _ _) (.str _ _ _) (de_bx b)
    | barred bs =>
      obtain ⟨h1, h2⟩ := p1 n hn1 bs hl
      refine de_two (.str _ _ _) (.lst (.ref (dr h1)) (.ref (dr (p2 n hn bs hl))) rfl (by rw [List.length_map]; omega) fun j x y e1 e2 => ?_)
      rw [e1] at e2
      cases e2
      rw [List.getElem?_map] at e1
      obtain ⟨b, _, rfl⟩ := Option.map_eq_some_iff.mp e1
      exact de_bar b
end G3

set_option Elab.async false
set_option linter.all false
set_option maxRecDepth 100000
set_option maxHeartbeats 4000000
/-! dicts of data that stand about, compared -/
namespace G3
open PySem PySem.Spec L2 PySem.W
section
variable {β : Type}
def eqDD (δ : β → PyData) (l1 l2 : List (Str × β)) : Bool := l1.length == l2.length && l1.all fun p => match getS l2 p.1 with | some b => PyData.eqv (δ p.2) (δ b) | none => false
/-- what a dict holds, as data -/
structure DtL (M : Mp) (f : β → VV) (δ : β → PyData) (n : Nat) (l : List (Str × β)) : Prop where
  dw : ∀ p ∈ l, DW M (f p.2) (δ p.2)
  pl : ∀ p ∈ l, (δ p.2).plain = true
  dp : ∀ p ∈ l, (δ p.2).depth ≤ n
theorem dd_hits {X : Cx} {M : Mp} {H : Hp} {s : Shared} {pins : List (Addr × Obj)} {σ : L2.St} {A : Around} {f : β → VV} {δ : β → PyData} {n n2 : Nat} {l2 : List (Str × β)} {ls : List (Key × V)} {vb : List (Key × Value)} (I : Inv X pins σ H s) (m : SimM X.K M H) (hu : A.units + n < cLine) (h2 : DtL M f δ n2 l2)
    (rl : Rkv X.K H ls (dS f l2)) (rb : KV ls vb) : ∀ (l : List (Str × β)) (ks : List (Key × V)) (va : List (Key × Value)), DtL M f δ n l → KV ks va → Rkv X.K H ks (dS f l) → KeqHitsP X.prog X.w A s vb va (l.all fun p => match getS l2 p.1 with | some b => PyData.eqv (δ p.2) (δ b) | none => false)
  | [], ks, va, h1, ra, rk => by
    cases rk
    unfold KV at ra
    cases ra
    exact .nil
  | (k, b) :: l, ks, va, h1, ra, rk => by
    cases rk with
    | @cons _ v _ ks' _ hv rk' =>
      unfold KV at ra
      cases ra with
      | @cons _ q _ va' hq ra' =>
        obtain ⟨k', u⟩ := q
        obtain ⟨e1, ru⟩ := hq
        have e1 : (Sum.inr k : Key) = k' := e1
        subst e1
        have ih := dd_hits I m hu h2 rl rb l ks' va' ⟨fun p hp => h1.dw p (List.mem_cons_of_mem _ hp), fun p hp => h1.pl p (List.mem_cons_of_mem _ hp), fun p hp => h1.dp p (List.mem_cons_of_mem _ hp)⟩ ra' rk'
        have rr := rb.val (.inr k)
        have lk := rl.val (.inr k)
        rw [dS_look] at lk
        cases hl : getS l2 k with
        | none =>
          rw [hl] at lk
          rw [lk.2 rfl] at rr
          have en : valueAt vb (.inr k) = none := by
            cases h : valueAt vb (.inr k) with
            | none => rfl
            | some z => rw [h] at rr; exact (show False from rr).elim
          have : (((k, b) :: l).all fun p => match getS l2 p.1 with | some b => PyData.eqv (δ p.2) (δ b) | none => false) = false := by
            rw [List.all_cons]
            simp only [hl, Bool.false_and]
          rw [this]
          exact .miss en
        | some b2 =>
          rw [hl] at lk
          obtain ⟨z, ez, rz⟩ := lk.1 _ rfl
          rw [ez] at rr
          obtain ⟨y, hy, ry⟩ := rr.some_of
          have hm2 := getS_mem hl
          obtain ⟨as, r1⟩ := Dp.reads I _ _ _ ((h1.dw (k, b) (by simp)).dp m _ _ _ hv) ru
          obtain ⟨bs, r2⟩ := Dp.reads I _ _ _ ((h2.dw _ hm2).dp m _ _ _ rz) ry
          have eq := (SeqAt.eqAt_plain _ _ A s _ _ _ _ r1 r2 (h1.pl (k, b) (by simp)) (h2.pl _ hm2) (by
            have := h1.dp (k, b) (by simp)
            omega)).eqP (prog := X.prog) (w := X.w)
          have : (((k, b) :: l).all fun p => match getS l2 p.1 with | some b => PyData.eqv (δ p.2) (δ b) | none => false) = (PyData.eqv (δ b) (δ b2) && l.all fun p => match getS l2 p.1 with | some b => PyData.eqv (δ p.2) (δ b) | none => false) := by
            rw [List.all_cons]
            simp only [hl]
          rw [this]
          exact .hit hy eq ih
theorem o2_eqDD {X : Cx} {M : Mp} {Q : VQ} {a b : Addr} {f : β → VV} {δ : β → PyData} {n n2 : Nat} {l1 l2 : List (Str × β)} (hu : X.A.units + 1 + n < cLine) (ha : M a = some (.dK (dS f l1))) (hb : M b = some (.dK (dS f l2))) (h1 : DtL M f δ n l1) (h2 : DtL M f δ n2 l2) (q : Q (.bl (eqDD δ l1 l2)) M) : O2 X (compareOp .Eq) (.ref a) (.ref b) M Q := fun H v u m r1 r2 pins s σ v1 u1 I z1 z2 => by
  cases r1; cases r2; cases z1; cases z2
  obtain ⟨ks, ha, rk⟩ := m _ _ ha
  obtain ⟨ls, hb, rl⟩ := m _ _ hb
  obtain ⟨_, ya, va, ra, da⟩ := (show ObjOk X.prog X.w H s.heap a (.dK ks) from I.hok a _ ha)
  obtain ⟨_, yb, vb, rb, db⟩ := (show ObjOk X.prog X.w H s.heap b (.dK ls) from I.hok b _ hb)
  refine PySem.W.rcP_dicts (knd := mixKind X.prog X.w) ya yb da db (by omega) (fun _ => dd_hits I m (A := X.A.in1) (by show X.A.units + 1 + _ < _; omega) h2 rl rb l1 ks va h1 ra rk) _ _ ?_
  have e1 : va.length = l1.length := by rw [← ra.length, rk.len, List.length_map]
  have e2 : vb.length = l2.length := by rw [← rb.length, rl.len, List.length_map]
  rw [e1, e2]
  exact ⟨.bl _, H, I, rfl, .mk m (.bl _) q⟩
theorem eqDD_look {δ : β → PyData} {l1 l2 l3 : List (Str × β)} (hl : l2.length = l3.length) (h : ∀ n, (getS l2 n).map δ = (getS l3 n).map δ) : eqDD δ l1 l2 = eqDD δ l1 l3 := by
  unfold eqDD
  rw [hl]
  congr 2
  funext p
  have := h p.1
  cases e2 : getS l2 p.1 <;> cases e3 : getS l3 p.1
  · rfl
  · rw [e2, e3] at this; cases this
  · rw [e2, e3] at this; cases this
  · rw [e2, e3] at this
    simp only [Option.map_some, Option.some.injEq] at this
    simp only [this]
end
end G3

set_option Elab.async false
set_option linter.all false
set_option maxRecDepth 100000
set_option maxHeartbeats 4000000
/-! letterings told, as data -/
namespace G3
open PySem PySem.Spec L2 PySem.W
abbrev LA := Addr × Lt
abbrev vla (q : LA) : VV := ltv q.1 q.2
def ltD : Lt → PyData
  | .under o => .tuple [.str "under", .str o]
  | .laid k b => .tuple [.str "laid", .str (sideS k), .tuple [.int b.1, .int b.2.1, .int b.2.2.1, .int b.2.2.2]]
  | .barred bs => .tuple [.str "barred", Datum.toD bs]
abbrev laD (q : LA) : PyData := ltD q.2
theorem ltD_plain (q : Lt) : (ltD q).plain = true := by
  cases q with
  | under o => rfl
  | laid k b => rfl
  | barred bs =>
    show PyData.plain (.tuple [.str "barred", Datum.toD bs]) = true
    simp only [PyData.plain, PyData.plainAll, Datum.plain bs, Bool.and_self]
theorem ltD_depth (q : Lt) : (ltD q).depth ≤ 20 := by
  cases q with
  | under o => exact (by decide : (2 : Nat) ≤ 20) |> fun h => Nat.le_trans (by simp [ltD, PyData.depth, PyData.depthAll]) h
  | laid k b => exact (by decide : (3 : Nat) ≤ 20) |> fun h => Nat.le_trans (by simp [ltD, PyData.depth, PyData.depthAll]) h
  | barred bs =>
    have h1 := Datum.depth_le bs
    have h2 : Datum.depth (List (Option Bar)) ≤ 19 := by decide
    show PyData.depth (.tuple [.str "barred", Datum.toD bs]) ≤ 20
    simp only [PyData.depth, PyData.depthAll]
    omega
def TOk (M : Mp) (l : List (Str × LA)) : Prop := ∀ p ∈ l, ∀ bs, p.2.2 = .barred bs → M p.2.1 = some (.lst (bs.map vbar))
theorem TOk.dt {M : Mp} {l : List (Str × LA)} (h : TOk M l) : DtL M vla laD 20 l := by
  refine ⟨fun p hp => ?_, fun p _ => ltD_plain _, fun p _ => ltD_depth _⟩
  obtain ⟨n, a, q⟩ := p
  cases q with
  | under o => exact .tup (.cons (.str _) (.cons (.str _) .nil))
  | laid k b => exact .tup (.cons (.str _) (.cons (.str _) (.cons (.tup (.cons (.int _) (.cons (.int _) (.cons (.int _) (.cons (.int _) .nil))))) .nil)))
  | barred bs => exact .tup (.cons (.str _) (.cons (dw_lst dw_vbar (.ref (h _ hp bs rfl))) .nil))
theorem TOk.le {M M' : Mp} {l : List (Str × LA)} (h : TOk M l) (e : LeM M M') : TOk M' l := fun p hp bs eb => e _ _ (h p hp bs eb)
theorem TOk.upd {M : Mp} {l : List (Str × LA)} (h : TOk M l) {a : Addr} {kvs : List (Key × VV)} {o : MO} (ha : M a = some (.dK kvs)) : TOk (updM M a o) l := fun p hp bs eb => by
  have := h p hp bs eb
  rw [updM_ne (fun z => by rw [z, ha] at this; cases this)]
  exact this
theorem TOk.put {M : Mp} {l : List (Str × LA)} (h : TOk M l) {n : Str} {q : LA} (hq : ∀ bs, q.2 = .barred bs → M q.1 = some (.lst (bs.map vbar))) : TOk M (putS l n q) := fun p hp bs eb => by
  rcases putS_mem hp with ⟨_, e⟩ | hp
  · rw [e] at eb ⊢; exact hq bs eb
  · exact h p hp bs eb
theorem TOk.dat {M : Mp} {l : List (Str × LA)} (h : TOk M l) (nd : (l.map (·.1)).Nodup) : Dat M 20 (dS vla l) := by
  refine ⟨?_, fun p hp => ?_⟩
  · rw [dS_keys]
    exact List.Pairwise.map _ (fun a b hab z => hab (Sum.inr.inj z)) nd
  · obtain ⟨q, hq, rfl⟩ := List.mem_map.mp hp
    exact ⟨laD q.2, h.dt.dw q hq, ltD_plain _, ltD_depth _, SeqAt.eqv_refl_plain _ (ltD_plain _)⟩
theorem sit_dat {M : Mp} {l : Sites} (nd : (l.map (·.1)).Nodup) : Dat M 20 (dS vsi l) := by
  refine ⟨?_, fun p hp => ?_⟩
  · rw [dS_keys]
    exact List.Pairwise.map _ (fun a b hab z => hab (Sum.inr.inj z)) nd
  · obtain ⟨q, hq, rfl⟩ := List.mem_map.mp hp
    exact ⟨_, dw_vsi q.2, Datum.plain _, Nat.le_trans (Datum.depth_le q.2) (by decide), SeqAt.eqv_refl_plain _ (Datum.plain _)⟩
/-- a lettering as such a dict -/
def ltL (ps : Str → Addr) (lt : Str → Lt) (ns : List Str) : List (Str × LA) := ns.map fun n => (n, (ps n, lt n))
theorem ltL_is (ps : Str → Addr) (lt : Str → Lt) (ns : List Str) : lettK ps lt ns = dS vla (ltL ps lt ns) := by
  simp only [lettK, dS, ltL, List.map_map]; rfl
theorem ltL_keys (ps : Str → Addr) (lt : Str → Lt) (ns : List Str) : (ltL ps lt ns).map (·.1) = ns := by unfold ltL; rw [List.map_map]; exact List.map_id ns
theorem ltL_ok {M : Mp} {ps : Str → Addr} {lt : Str → Lt} {ns : List Str} (h : ∀ n ∈ ns, ∀ bs, lt n = .barred bs → M (ps n) = some (.lst (bs.map vbar))) : TOk M (ltL ps lt ns) := fun p hp bs e => by
  obtain ⟨n, hn, rfl⟩ := List.mem_map.mp hp
  exact h n hn bs e
theorem ltL_get {ps : Str → Addr} {lt : Str → Lt} {ns : List Str} (nd : ns.Nodup) (n : Str) : (getS (ltL ps lt ns) n).map laD = if n ∈ ns then some (ltD (lt n)) else none := by
  by_cases h : n ∈ ns
  · rw [if_pos h, getS_of (l := ltL ps lt ns) (n := n) (b := (ps n, lt n)) (by rw [ltL_keys]; exact nd) (List.mem_map.mpr ⟨n, h, rfl⟩)]
    rfl
  · rw [if_neg h]
    cases e : getS (ltL ps lt ns) n with
    | none => rfl
    | some b => exact absurd (by rw [← ltL_keys ps lt ns]; exact List.mem_map.mpr ⟨_, getS_mem e, rfl⟩) h
theorem ltL_eq {tl : List (Str × LA)} {ps ps' : Str → Addr} {lt : Str → Lt} {ns ns' : List Str} (nd : ns.Nodup) (pm : ns.Perm ns') : eqDD laD tl (ltL ps lt ns) = eqDD laD tl (ltL ps' lt ns') := by
  refine eqDD_look (by unfold ltL; rw [List.length_map, List.length_map, pm.length_eq]) fun n => ?_
  rw [ltL_get nd, ltL_get (pm.nodup_iff.mp nd)]
  by_cases h : n ∈ ns
  · rw [if_pos h, if_pos (pm.mem_iff.mp h)]
  · rw [if_neg h, if_neg (fun z => h (pm.mem_iff.mpr z))]
/-! promises -/
def spLHolds (P : Addr) : Sp3 := fun ws M Q => ∃ (s d : Addr) (l : Sites) (t : Int) (tl : List (Str × LA)), ws = [.ref s, .int t, .ref d] ∧ M s = some (.dK (dS vsi l)) ∧ M P = some (.tab (lamQ "by_rank")) ∧ SiOk l t ∧ M d = some (.dK (dS vla tl)) ∧ TOk M tl ∧
  ∀ M2, LeM M M2 → Q (.bl (eqDD laD tl (ltL (fun _ => 0) (ltOf (prF l) t (ordF l)) (ordF l)))) M2
def spBendL : Sp3 := fun ws M Q => ∃ (b s d : Addr) (t : Int) (l : Sites) (tl : List (Str × LA)) (M0 : Mp), ws = [.ref b, .ref s, .int t, .ref d] ∧ LeM M0 M ∧ M0 d = none ∧ M0 b = some .bag ∧ M0 s = some (.dK (dS vsi l)) ∧ SiOk l t ∧ l ≠ [] ∧ M d = some (.dK (dS vla tl)) ∧ TOk M tl ∧ (tl.map (·.1)).Nodup ∧ tl.length ≤ 60 ∧
  ∀ tl2 M2, LeM M0 M2 → M2 d = some (.dK (dS vla tl2)) → TOk M2 tl2 → (tl2.map (·.1)).Nodup → tl2.length ≤ tl.length + 1 → Q .non M2
def lessL {β : Type} (l : List (Str × β)) (n : Str) : List (Str × β) := l.filter fun p => decide (p.1 ≠ n)
theorem lessL_is {β : Type} (f : β → VV) (l : List (Str × β)) (n : Str) : cutK (dS f l) (.inr n) = dS f (lessL l n) := by
  unfold cutK lessL
  show List.filter _ (List.map _ _) = List.map _ (List.filter _ _)
  rw [List.filter_map]
  congr 1
  refine List.filter_congr fun p _ => ?_
  show decide ((Sum.inr p.1 : Key) ≠ Sum.inr n) = decide (p.1 ≠ n)
  exact decide_eq_decide.mpr ⟨fun h z => h (congrArg Sum.inr z), fun h z => h (Sum.inr.inj z)⟩
/-- the things of a comprehension, each such a bar -/
theorem fr_bar {α : Type} {xs : List α} {ys : List VV} (h : FR (fun (_ : α) b => b = true) (fun _ y => ∃ b : Option Bar, y = vbar b) xs ys) : ∃ bs : List (Option Bar), ys = bs.map vbar := by
  induction h with
  | nil => exact ⟨[], rfl⟩
  | skip h _ _ => cases h
  | take _ h _ ih =>
    obtain ⟨b, rfl⟩ := h
    obtain ⟨bs, rfl⟩ := ih
    exact ⟨b :: bs, rfl⟩
end G3

set_option Elab.async false
set_option linter.all false
set_option maxRecDepth 100000
set_option maxHeartbeats 4000000
/-! lettering by the plain walk: all that bars a box -/
namespace G3
open PySem PySem.Spec L2 PySem.W
theorem find_congr {α : Type} {p q : α → Bool} : ∀ {l : List α}, (∀ x ∈ l, p x = q x) → l.find? p = l.find? q
  | [], _ => rfl
  | a :: l, h => by
    rw [List.find?_cons, List.find?_cons, h a (by simp), find_congr fun x hx => h x (List.mem_cons_of_mem _ hx)]
def hitR (rb : List (Str × Bx)) (b : Bx) (o : Str) : Bool := match getS rb o with
  | some r => meetB b r
  | none => false
theorem getS_cons {β : Type} {k : Str} {r : β} {l : List (Str × β)} (n : Str) : getS ((k, r) :: l) n = if k = n then some r else getS l n := by
  unfold getS
  rw [List.find?_cons]
  by_cases h : k = n
  · rw [if_pos h]; simp [h]
  · rw [if_neg h]; simp [h]
theorem sub_find (b : Bx) : ∀ (U : List Str) (rb : List (Str × Bx)), U.Nodup → (rb.map (·.1)).Sublist U → U.find? (hitR rb b) = (rb.find? fun z => meetB b z.2).map (·.1)
  | [], rb, _, h => by
    have : rb = [] := by
      cases rb with
      | nil => rfl
      | cons z rb => cases h
    subst this; rfl
  | u :: U, rb, nd, h => by
    rw [List.nodup_cons] at nd
    have gn : ∀ {z : List (Str × Bx)}, u ∉ z.map (·.1) → hitR z b u = false := fun {z} hz => by
      unfold hitR
      cases e : getS z u with
      | none => rfl
      | some r => exact absurd (List.mem_map.mpr ⟨_, getS_mem e, rfl⟩) hz
    cases rb with
    | nil =>
      rw [List.find?_cons, gn (by simp)]
      exact sub_find b U [] nd.2 (by simp)
    | cons z rb =>
      obtain ⟨k, r⟩ := z
      by_cases hk : k = u
      · subst hk
        have h' : (rb.map (·.1)).Sublist U := by
          have : (k :: rb.map (·.1)).Sublist (k :: U) := h
          exact List.cons_sublist_cons.mp this
        have h1 : hitR ((k, r) :: rb) b k = meetB b r := by unfold hitR; rw [getS_cons, if_pos rfl]
        rw [List.find?_cons, List.find?_cons, h1]
        show (match meetB b r with | true => some k | false => U.find? _) = Option.map _ (match meetB b r with | true => some (k, r) | false => rb.find? _)
        cases meetB b r with
        | true => rfl
        | false =>
          show U.find? _ = Option.map _ (rb.find? _)
          rw [← sub_find b U rb nd.2 h']
          refine find_congr fun x hx => ?_
          unfold hitR
          rw [getS_cons, if_neg (fun z : k = x => nd.1 (z ▸ hx))]
      · have h' : (((k, r) :: rb).map (·.1)).Sublist U := by
          cases h with
          | cons _ h => exact h
          | cons_cons _ h => exact absurd rfl hk
        rw [List.find?_cons, gn (fun z => nd.1 (h'.subset z))]
        exact sub_find b U _ nd.2 h'
def hitS (pr : Str → Pt) (n : Str) (b : Bx) (o : Str) : Bool := decide (o ≠ n) && inB (pr o) b
def byS (pr : Str → Pt) (U : List Str) (n : Str) (b : Bx) : List Bar := (U.filter (hitS pr n b)).map fun o => (Str.ofString "site", o)
def byR (U : List Str) (b : Bx) (rb : List (Str × Bx)) : List Bar := (U.filter (hitR rb b)).map fun o => (Str.ofString "name", o)
abbrev vb (q : Bar) : VV := .tup [.str q.1, .str q.2]
theorem by_head {pr : Str → Pt} {U : List Str} {n : Str} {b : Bx} {st : List (Str × Pt)} {rb : List (Str × Bx)} (hk : st.map (·.1) = U) (hv : ∀ z ∈ st, z.2 = pr z.1) (nd : U.Nodup) (hs : (rb.map (·.1)).Sublist U) :
    (byS pr U n b ++ byR U b rb).head? = barF n b st rb := by
  have e1 : (byS pr U n b).head? = (U.find? (hitS pr n b)).map fun o => (Str.ofString "site", o) := by
    unfold byS; rw [List.head?_map, List.head?_filter]
  have e2 : (byR U b rb).head? = (U.find? (hitR rb b)).map fun o => (Str.ofString "name", o) := by
    unfold byR; rw [List.head?_map, List.head?_filter]
  have e3 : U.find? (hitS pr n b) = (st.find? fun z => decide (z.1 ≠ n) && inB z.2 b).map (·.1) := by
    rw [← hk, List.find?_map]
    congr 1
    refine find_congr fun z hz => ?_
    show (decide (z.1 ≠ n) && inB (pr z.1) b) = _
    rw [hv z hz]
  rw [List.head?_append, e1, e2, e3, sub_find b U rb nd hs]
  unfold barF
  cases st.find? (fun z => decide (z.1 ≠ n) && inB z.2 b) with
  | some z => rfl
  | none =>
    show Option.map _ (Option.map _ _) = _
    rw [Option.map_map]; rfl
theorem by_nil {l : List Bar} : l = [] ↔ l.head? = none := by cases l <;> simp
theorem by_one {l : List Bar} {q : Bar} (h : l.head? = some q) : l.take 1 = [q] := by
  cases l with
  | nil => cases h
  | cons a l => cases h; rfl
/-! the corners gone through, one by one -/
structure CornA (N : Addr → Prop) (M' : Mp) (F Ro q0 : Addr) (base : List (Key × VV)) (bx : List (Str × Bx)) (bar : Nat → Option Bar) (j : Nat) : Prop where
  no : ∀ k, k < j → bar k ≠ none
  r : M' Ro = some (.dK (dS vbx bx))
  f : M' F = some (.dK base)
  b : M' q0 = some (.lst ((List.range j).map fun k => vbar (bar k)))
  nq : N q0
structure CornB (M' : Mp) (F Ro q0 : Addr) (base : List (Key × VV)) (bx : List (Str × Bx)) (n : Str) (box : Nat → Bx) (bar : Nat → Option Bar) (k j : Nat) : Prop where
  hk : k < j
  hit : bar k = none
  no : ∀ m, m < k → bar m ≠ none
  r : M' Ro = some (.dK (dS vbx (bx ++ [(n, box k)])))
  f : M' F = some (.dK (base ++ [((Sum.inr n : Key), .tup [.str "laid", .str (sideS k), vbx (box k)])]))
  b : ∃ ys, M' q0 = some (.lst ys) ∧ ys.length ≤ j
theorem bars_hit {st : List (Str × Pt)} {p : Pt} {t : Int} {n : Str} {bx : List (Str × Bx)} {k : Nat} (hk : k < 4) (h : barF n (sideF p n t k) st bx = none) (no : ∀ m, m < k → barF n (sideF p n t m) st bx ≠ none) : (barsF st p t n bx).findIdx? (fun b => b.isNone) = some k := by
  have get : ∀ m (hm : m < (barsF st p t n bx).length), (barsF st p t n bx)[m] = barF n (sideF p n t m) st bx := fun m hm => by
    match m, hm with
    | 0, _ => rfl
    | 1, _ => rfl
    | 2, _ => rfl
    | 3, _ => rfl
  refine List.findIdx?_eq_some_iff_getElem.mpr ⟨hk, by rw [get k hk, h]; rfl, fun m hm z => ?_⟩
  have hm4 : m < (barsF st p t n bx).length := Nat.lt_trans hm hk
  rw [get m hm4] at z
  cases e : barF n (sideF p n t m) st bx with
  | none => exact no m hm e
  | some b => rw [e] at z; cases z
theorem bars_miss {st : List (Str × Pt)} {p : Pt} {t : Int} {n : Str} {bx : List (Str × Bx)} (no : ∀ m, m < 4 → barF n (sideF p n t m) st bx ≠ none) : (barsF st p t n bx).findIdx? (fun b => b.isNone) = none := by
  refine List.findIdx?_eq_none_iff.mpr fun b hb => ?_
  obtain ⟨m, hm, rfl⟩ := List.mem_map.mp hb
  have hm4 : m < 4 := by simp at hm; omega
  cases e : barF n (sideF p n t m) st bx with
  | none => exact absurd e (no m hm4)
  | some b => rfl
theorem side_w {k : Nat} (h : k < 4) : decide (sideS k ∈ ([Str.ofString "nw", Str.ofString "sw"] : List Str)) = decide (k % 2 = 1) := by
  match k, h with
  | 0, _ => decide +kernel
  | 1, _ => decide +kernel
  | 2, _ => decide +kernel
  | 3, _ => decide +kernel
theorem side_s {k : Nat} (h : k < 4) : decide (sideS k ∈ ([Str.ofString "se", Str.ofString "sw"] : List Str)) = decide (2 ≤ k) := by
  match k, h with
  | 0, _ => decide +kernel
  | 1, _ => decide +kernel
  | 2, _ => decide +kernel
  | 3, _ => decide +kernel
/-! promises -/
def spRoom : Sp3 := fun ws M Q => ∃ (p : Pt) (n : Str) (t : Int) (k : Nat), ws = [vpf p, .str n, .int t, .str (sideS k)] ∧ k < 4 ∧ n.length ≤ 100 ∧ 0 ≤ t ∧ t ≤ 1000 ∧ Q (vbx (sideF p n t k)) M
def spTouch : Sp3 := fun ws M Q => ∃ (a b : Bx), ws = [vbx a, vbx b] ∧ PB a ∧ PB b ∧ Q (.bl (meetB a b)) M
def spRankO (P : Addr) : Sp3 := fun ws M Q => ∃ (d : Addr) (l : Sites), ws = [.ref d] ∧ DkAt M d (dS vsi l) ∧ M P = some (.tab (lamQ "_law_rank_order")) ∧ ∀ r M2, M r = none → LeM M M2 → M2 r = some (.lst ((ordF l).map .str)) → Q (.ref r) M2
def spLLett5 (P : Addr) : Sp3 := fun ws M Q => ∃ (d : Addr) (l : Sites) (t : Int), ws = [.ref d, .int t] ∧ M d = some (.dK (dS vsi l)) ∧ M P = some (.tab (lamQ "_law_rank_order")) ∧ SiOk l t ∧
  ∀ r ps M2, M r = none → LeM M M2 → M2 r = some (.dK (lettK ps (ltOf (prF l) t (ordF l)) (ordL (prF l) (ordF l)))) → Psk M M2 ps (ltOf (prF l) t (ordF l)) (ordL (prF l) (ordF l)) → Q (.ref r) M2
end G3

set_option Elab.async false
set_option linter.all false
set_option maxRecDepth 100000
set_option maxHeartbeats 4000000
set_option pp.maxSteps 1000
namespace G3
open PySem PySem.Spec L2
local macro_rules | `(tactic| walk_at "at") => `(tactic| with_reducible (repeat (first | exact At.here | apply At.there)))
local macro_rules | `(tactic| walk_at "vis") => `(tactic| first | exact Or.inl rfl | exact Or.inr (Or.inl rfl) | exact Or.inr (Or.inr rfl))
local macro_rules | `(tactic| walk_at "loc") => `(tactic| first | exact Or.inl rfl | exact Or.inr rfl)
local macro_rules | `(tactic| walk_at "as") => `(tactic| with_reducible assumption)
local macro_rules | `(tactic| walk_at "e") => `(tactic| first
  | ((with_reducible show G3.WE _ (.Name _ _) _ _ _); first | refine we_nm (by walk_at "as") (by walk_at "at") (by walk_at "vis") (by rfl) ?_ | refine we_tyn (by walk_at "as") (by rfl) (by walk_at "as") (by walk_at "as") ?_ | refine we_cls (C := He.ga _ _) (by walk_at "as") (by rfl) (by walk_at "as") ?_ | refine we_nmH (by walk_at "as") (by walk_at "at") (by walk_at "vis") (by rfl) ?_ | refine we_tynH (by walk_at "as") (by rfl) (by walk_at "as") (by walk_at "as") ?_ | refine we_clsH (C := He.ga _ _) (by walk_at "as") (by rfl) (by walk_at "as") ?_)
  | ((with_reducible show G3.WE _ (.Constant (.int _) _ _) _ _ _); refine we_int ?_)
  | ((with_reducible show G3.WE _ (.Subscript _ (.Slice _ _ (some _) _) _) _ _ _); refine we_rev ?_)
  | ((with_reducible show G3.WE _ (.Subscript _ (.Slice _ _ none _) _) _ _ _); refine we_slice ?_)
  | ((with_reducible show G3.WE _ (.Subscript _ _ _) _ _ _); refine we_ix ?_)
  | ((with_reducible show G3.WE _ (.BinOp _ _ _ _) _ _ _); refine we_op ?_)
  | ((with_reducible show G3.WE _ (.Call (.Name _ _) _ _ _) _ _ _); first
      | refine we_call (by walk_at "as") (by walk_at "as") (by decide) (by rfl) ?_
      | refine we_callB (by walk_at "as") (by rfl) (by walk_at "as") (by walk_at "as") ?_
      | refine we_callTy (by walk_at "as") (by rfl) (by walk_at "as") (by walk_at "as") ?_
      | refine we_callX (by walk_at "as") (by walk_at "as") (by walk_at "as") (by decide) (by rfl) (by walk_at "as") ?_
      | refine we_callBH (by walk_at "as") (by rfl) (by walk_at "as") (by walk_at "as") ?_)
  | ((with_reducible show G3.WE _ (.Attribute _ _ _) _ _ _); first | refine we_fld (by walk_at "as") ?_ | refine we_xfH (by walk_at "as") (by walk_at "as") (by walk_at "as") (by walk_at "as") ?_)
  | ((with_reducible show G3.WE _ (.Tuple _ _ _) _ _ _); refine we_tup ?_)
  | ((with_reducible show G3.WE _ (.List _ _) _ _ _); first | refine we_lstN ?_ | refine we_lst ?_)
  | ((with_reducible show G3.WE _ (.Compare _ [_] _ _) _ _ _); refine we_cmp ?_)
  | ((with_reducible show G3.WE _ (.Compare _ [_, _] _ _) _ _ _); refine we_chain ?_)
  | ((with_reducible show G3.WE _ (.UnaryOp .Not _ _) _ _ _); refine we_not ?_)
  | ((with_reducible show G3.WE _ (.UnaryOp _ _ _) _ _ _); refine we_un ?_)
  | ((with_reducible show G3.WE _ (.IfExp _ _ _ _) _ _ _); refine we_if ?_)
  | ((with_reducible show G3.WE _ (.Constant _ _ _) _ _ _); first | refine we_bl ?_ | refine we_non ?_ | refine we_str ?_)
  | ((with_reducible show G3.WE _ (.JoinedStr (_ :: _ :: _) _) _ _ _); refine we_joined ?_)
  | ((with_reducible show G3.WE _ (.FormattedValue _ _ _ _) _ _ _); refine we_fmt ?_)
  | ((with_reducible show G3.WE _ (.BoolOp _ [_] _) _ _ _); refine we_one ?_)
  | ((with_reducible show G3.WE _ (.BoolOp .And _ _) _ _ _); refine we_and ?_)
  | ((with_reducible show G3.WE _ (.BoolOp .Or _ _) _ _ _); refine we_or ?_))
local macro_rules | `(tactic| walk_at "t") => `(tactic| first
  | ((with_reducible show WT _ (.Compare _ [_] _ _) _ _ _); refine wt_cmp ?_)
  | ((with_reducible show WT _ (.Compare _ [_, _] _ _) _ _ _); refine wt_chain ?_)
  | ((with_reducible show WT _ (.UnaryOp .Not _ _) _ _ _); refine wt_not ?_)
  | ((with_reducible show WT _ (.BoolOp .And _ _) _ _ _); refine wt_w (ww_and ?_))
  | ((with_reducible show WT _ (.BoolOp .Or _ _) _ _ _); refine wt_w (ww_or ?_))
  | refine wt_truth ?_)
local macro_rules | `(tactic| walk_at "w") => `(tactic| first
  | ((with_reducible show WW _ (.BoolOp .And [_] _) _ _ _); refine ww_and1 ?_)
  | ((with_reducible show WW _ (.BoolOp .Or [_] _) _ _ _); refine ww_or1 ?_)
  | ((with_reducible show WW _ (.BoolOp .And _ _) _ _ _); refine ww_and ?_)
  | ((with_reducible show WW _ (.BoolOp .Or _ _) _ _ _); refine ww_or ?_))
local macro_rules | `(tactic| walk_at "st") => `(tactic| first
  | ((with_reducible show WS _ (.Assign [.Name _ _] (.ListComp _ _ _ _) _) _ _ _); fail)
  | ((with_reducible show WS _ (.Assign [.Name _ _] _ _) _ _ _); first | refine ws_set (by walk_at "as") (by walk_at "at") (by walk_at "loc") ?_ | refine ws_setH (by walk_at "as") (by walk_at "at") (by walk_at "loc") ?_)
  | ((with_reducible show WS _ (.Return (some _) _) _ _ _); refine ws_ret ?_)
  | ((with_reducible show WS _ (.If _ _ _ _) _ _ _); refine ws_if ?_)
  | ((with_reducible show WS _ (.Expr (.Call (.Attribute _ "append" _) _ _ _) _) _ _ _); refine ws_append ?_)
  | ((with_reducible show WS _ (.Expr (.Call (.Attribute _ "insert" _) _ _ _) _) _ _ _); refine ws_insert ?_)
  | ((with_reducible show WS _ (.Expr _ _) _ _ _); refine ws_expr ?_)
  | ((with_reducible show WS _ (.Assign [.Tuple _ _ _] (.Tuple _ _ _) _) _ _ _); first
      | refine ws_par2 (by walk_at "as") (by walk_at "at") (by walk_at "at") (by rfl) (by rfl) (by rfl) (by rfl) ?_
      | refine ws_asgT (by walk_at "as") (by rfl) ?_)
  | ((with_reducible show WS _ (.Raise (some _) none _) _ _ _); refine ws_raise (by walk_at "as") (by walk_at "as") ?_)
  | ((with_reducible show WS _ (.Assign [_] _ _) _ _ _); (fail_if_success (with_reducible show WS _ (.Assign [.Attribute _ _ _] _ _) _ _ _)); refine ws_asg ?_)
  | ((with_reducible show WS _ (.Return none _) _ _ _); refine ws_retN ?_)
  | ((with_reducible show WS _ (.Pass _) _ _ _); refine ws_pass ?_)
  | ((with_reducible show WS _ (.Break _) _ _ _); refine ws_break ?_)
  | ((with_reducible show WS _ (.Continue _) _ _ _); refine ws_continue ?_))
local macro_rules | `(tactic| walk_at "mul") => `(tactic| with_unfolding_all first
  | exact cml (by decide) (by decide)
  | exact cmr (by decide) (by decide)
  | exact cmw (by with_reducible assumption) (by with_reducible assumption) (by decide) (by decide) (by decide)
  | exact cml (by omega) (by omega)
  | exact cmr (by omega) (by omega))
local macro_rules | `(tactic| walk_at "o2") => `(tactic| with_reducible first
  | refine o2_add ?_
  | refine o2_sub ?_
  | refine o2_mul (by walk_at "mul") ?_
  | refine o2_lt ?_
  | refine o2_le ?_
  | refine o2_gt ?_
  | refine o2_ge ?_
  | refine o2_eqi ?_
  | refine o2_nei ?_
  | refine o2_eqb ?_
  | refine o2_neb ?_
  | refine o2_eqs ?_
  | refine o2_nes ?_
  | refine o2_isN ?_
  | refine o2_notN ?_)
local macro_rules | `(tactic| walk_at "x") => `(tactic| first
  | ((with_reducible show G3.WE _ _ _ _ _); walk_at "e")
  | ((with_reducible show WA _ _ _ _ _); first | refine wa_cons ?_ | refine wa_nil ?_)
  | ((with_reducible show WMk _ (.Call (.Name _ _) [] _ _) _ _ _); refine wmk_own0 (by walk_at "as") (by walk_at "as") (by decide) (by rfl) ?_)
  | ((with_reducible show WO _ _ _ _ _); first | (show G3.WE _ _ _ _ _))
  | ((with_reducible show WT _ _ _ _ _); walk_at "t")
  | ((with_reducible show G3.WJ _ _ _ _ _ _); first | refine wj_cons ?_ | refine wj_nil ?_)
  | ((with_reducible show G3.WK _ _ _ _ _); first | refine wk_cons ?_ | refine wk_nil ?_)
  | ((with_reducible show WW _ _ _ _ _); walk_at "w")
  | ((with_reducible show WS _ _ _ _ _); walk_at "st")
  | ((with_reducible show O2 _ _ _ _ _ _); walk_at "o2")
  | ((with_reducible show OI _ (.tup _) _ _ _); refine oi_tup rfl ?_)
  | ((with_reducible show OC _ _ _ _ _); with_reducible first | refine oc_abs ?_ | refine oc_int ?_ | refine oc_intb ?_ | refine oc_lenT ?_)
  | ((with_reducible show O1 _ _ _ _ _); refine o1_neg ?_)
  | ((with_reducible show BQ _ _ _); refine ⟨_, rfl, ?_⟩)
  | ((with_reducible show WG _ _ _ _ _ _); first | refine wg_name (by walk_at "as") (by walk_at "at") (by walk_at "loc") ?_ | refine wg_tup (by walk_at "as") ?_)
  | ((with_reducible show WGs _ _ _ _ _ _); first | refine wgs_cons (by walk_at "as") (by walk_at "at") (by walk_at "loc") ?_ | refine wgs_nil ?_))
local macro_rules | `(tactic| walk_at "s") => `(tactic| first
  | walk_at "x"
  | ((with_reducible show WSs _ _ _ _ _); first | refine wss_cons ?_ | refine wss_nil ?_))
theorem df_likeD {E : Ev} (hSo : E.mg "sorted" = none) (hI : E.mg "isinstance" = none) (hB : E.mg "bool" = none) (hS : E.mg "str" = none) (hD : E.mg "dict" = none) (hT : E.mg "tuple" = none) (hL : E.mg "list" = none) (hLen : E.mg "len" = none) (hAll : E.mg "all" = none) (hZ : E.mg "zip" = none)
    (T : Tx E "_law_like" (top 14) ["_law_found", "_law_due"]) : ∀ n, E.df (n + 2) "_law_like" ["_law_found", "_law_due"] (spSameD n) := by
  have bI := bb_isi
  have bB := bb_bool
  have bS := bb_str
  have bD := bb_dict
  have bT := bb_tuple
  have bL := bb_list
  have bLen := bb_len
  have bA := bb_all
  have atoms : ∀ (k : Nat) (X : Cx), E.bd ["_law_found", "_law_due", "_law_name", "_law_a", "_law_b"] (defScope (top 14)) true (k + 1) X → ∀ (u : VV) (M : Mp) (Q : VQ) (T : String) (bo st : Bool), TyW M u T → kitB T "dict" = some false → kitB T "tuple" = some false → kitB T "list" = some false → kitB T "bool" = some bo → kitB T "str" = some st →
      (∀ Q' : VQ, Q' (.bl true) M → O2 X (compareOp .Eq) u u M Q') → Q (.bl true) M →
      WSs X (defBody (top 14)) [some u, some u, none, none, none] M { nx := fun _ M' => ∃ M0, LeM M0 M' ∧ Q .non M0, rt := fun u M' => ∃ M0, LeM M0 M' ∧ Q u M0 } := by
    intro k X B u M Q T bo st tu d1 d2 d3 d4 d5 heq q
    repeat (walk_at "s")
    refine oc_isi tu d1 ?_
    refine ⟨_, .bl _, iteF ?_⟩
    repeat (walk_at "s")
    refine oc_isi tu d2 ?_
    repeat (walk_at "s")
    refine oc_isi tu d2 ?_
    repeat (walk_at "s")
    refine iteF ?_
    repeat (walk_at "s")
    refine oc_isi tu d3 ?_
    repeat (walk_at "s")
    refine oc_isi tu d3 ?_
    repeat (walk_at "s")
    refine iteF ?_
    repeat (walk_at "s")
    refine ⟨by show 2 ≤ sizeLine; decide, ?_⟩
    repeat (walk_at "s")
    refine oc_isi2 tu d3 d2 ?_
    refine ⟨_, .bl _, iteF ?_⟩
    repeat (walk_at "s")
    refine oc_isi tu d4 ?_
    repeat (walk_at "s")
    refine oc_isi tu d4 ?_
    repeat (walk_at "s")
    refine ite_no (by simp) ?_
    repeat (walk_at "s")
    refine oc_isi tu d5 ?_
    repeat (walk_at "s")
    refine oc_isi tu d5 ?_
    repeat (walk_at "s")
    refine ite_no (by simp) ?_
    repeat (walk_at "s")
    refine ite_yes (by simp) ?_
    repeat (walk_at "s")
    refine heq _ ?_
    repeat (walk_at "s")
    exact ⟨M, LeM.refl, q⟩
  have atomsD : ∀ (n k : Nat) (X : Cx), E.bd ["_law_found", "_law_due", "_law_name", "_law_a", "_law_b"] (defScope (top 14)) true (k + 1) X → ∀ (u : VV) (M : Mp) (Q : VQ), (u = .non ∨ (∃ b, u = .bl b) ∨ (∃ i, u = .int i) ∨ ∃ x, u = .str x) → Q (.bl true) M →
      WSs X (defBody (top 14)) [some u, some u, none, none, none] M { nx := fun _ M' => ∃ M0, LeM M0 M' ∧ Q .non M0, rt := fun u M' => ∃ M0, LeM M0 M' ∧ Q u M0 } := by
    intro n k X B u M Q hu q
    rcases hu with rfl | ⟨b, rfl⟩ | ⟨i, rfl⟩ | ⟨x, rfl⟩
    · exact atoms k X B _ M Q _ false false .non (by decide +kernel) (by decide +kernel) (by decide +kernel) (by decide +kernel) (by decide +kernel) (fun Q' h => o2_eqD (by have := B.room.un; omega) .non .non rfl rfl h) q
    · exact atoms k X B _ M Q _ true false (.bl b) (by decide +kernel) (by decide +kernel) (by decide +kernel) (by decide +kernel) (by decide +kernel) (fun Q' h => o2_eqb (by rw [decide_eq_true rfl]; exact h)) q
    · exact atoms k X B _ M Q _ false false (.int i) (by decide +kernel) (by decide +kernel) (by decide +kernel) (by decide +kernel) (by decide +kernel) (fun Q' h => o2_eqi (by rw [decide_eq_true rfl]; exact h)) q
    · exact atoms k X B _ M Q _ false true (.str x) (by decide +kernel) (by decide +kernel) (by decide +kernel) (by decide +kernel) (by decide +kernel) (fun Q' h => o2_eqs (by rw [decide_eq_true rfl]; exact h)) q
  intro n
  induction n with
  | zero =>
    refine T.df ["_law_found", "_law_due", "_law_name", "_law_a", "_law_b"] ⟨rfl, rfl, rfl, by decide +kernel, rfl, by decide +kernel, by decide +kernel⟩ (fun ws M Q ⟨a, b, e, _⟩ => by rw [e]; rfl) fun X B ws M Q ⟨u, v, e, h, q⟩ => ?_
    subst e
    cases h with
    | non => exact atomsD 0 0 X B _ M Q (.inl rfl) q
    | bl _ _ b => exact atomsD 0 0 X B _ M Q (.inr (.inl ⟨b, rfl⟩)) q
    | int _ _ i => exact atomsD 0 0 X B _ M Q (.inr (.inr (.inl ⟨i, rfl⟩))) q
    | str _ _ x => exact atomsD 0 0 X B _ M Q (.inr (.inr (.inr ⟨x, rfl⟩))) q
  | succ n ih =>
    refine T.df ["_law_found", "_law_due", "_law_name", "_law_a", "_law_b"] ⟨rfl, rfl, rfl, by decide +kernel, rfl, by decide +kernel, by decide +kernel⟩ (fun ws M Q ⟨a, b, e, _⟩ => by rw [e]; rfl) fun X B ws M Q ⟨u, v, e, h, q⟩ => ?_
    subst e
    -- the items of both
    have items : ∀ (us vs : List VV), us.length = vs.length → us.length ≤ 100000 → (∀ (j : Nat) x y, us[j]? = some x → vs[j]? = some y → DE2 M n x y) → ∀ (it : It3), it.n = min us.length vs.length → (∀ j u, it.item j u → ∃ x y, us[j]? = some x ∧ vs[j]? = some y ∧ u = .tup [x, y]) → (∀ M', LeM M M' → it.hold M') →
        Itm it M (us.zip vs) (fun z y => y = .tup [z.1, z.2]) := fun us vs hl hs _ it h1 h2 h3 =>
      ⟨by rw [h1, List.length_zip], fun j u hj hu => by
        obtain ⟨x, y, e1, e2, e3⟩ := h2 j u hu
        exact ⟨(x, y), List.getElem?_zip_eq_some.mpr ⟨e1, e2⟩, e3⟩, h3, by rw [List.length_zip]; exact Nat.le_trans (Nat.min_le_left _ _) (Nat.le_trans hs (by decide))⟩
    cases h with
    | non => exact atomsD (n + 1) (n + 1) X B _ M Q (.inl rfl) q
    | bl _ _ b => exact atomsD (n + 1) (n + 1) X B _ M Q (.inr (.inl ⟨b, rfl⟩)) q
    | int _ _ i => exact atomsD (n + 1) (n + 1) X B _ M Q (.inr (.inr (.inl ⟨i, rfl⟩))) q
    | str _ _ x => exact atomsD (n + 1) (n + 1) X B _ M Q (.inr (.inr (.inr ⟨x, rfl⟩))) q
    | @lst _ _ u v us vs hu hv hlen hsm hit =>
      have tu : TyW M u "list" := by
        cases hu with
        | ref e => exact .lst e
        | seq => exact .seq _
      have tv : TyW M v "list" := by
        cases hv with
        | ref e => exact .lst e
        | seq => exact .seq _
      show WSs X _ [some u, some v, none, none, none] M _
      repeat (walk_at "s")
      refine oc_isi tv (b := false) (by decide +kernel) ?_
      refine ⟨_, .bl _, iteF ?_⟩
      repeat (walk_at "s")
      refine oc_isi tv (b := false) (by decide +kernel) ?_
      repeat (walk_at "s")
      refine oc_isi tu (b := false) (by decide +kernel) ?_
      repeat (walk_at "s")
      refine iteF ?_
      repeat (walk_at "s")
      refine oc_isi tv (b := true) (by decide +kernel) ?_
      repeat (walk_at "s")
      refine oc_isi tu (b := true) (by decide +kernel) ?_
      repeat (walk_at "s")
      refine iteF ?_
      repeat (walk_at "s")
      refine ⟨by show 2 ≤ sizeLine; decide, ?_⟩
      repeat (walk_at "s")
      refine oc_isi2 tv (b := true) (b' := false) (by decide +kernel) (by decide +kernel) ?_
      refine ⟨_, .bl _, iteT ?_⟩
      repeat (walk_at "s")
      refine oc_len hu ?_
      repeat (walk_at "s")
      refine oc_len hv ?_
      repeat (walk_at "s")
      refine ite_yes (decide_eq_true (by rw [hlen])) ?_
      repeat (walk_at "s")
      refine we_lc B [("_law_a", 3), ("_law_b", 4)] (by decide +kernel) (by decide) (pgI2 B (by walk_at "at") (by rfl) (by walk_at "at") (by rfl)) ctg2 ?_
      refine wi_zipA B (by rfl) hZ ?_
      repeat (walk_at "s")
      refine ⟨u, v, us, vs, rfl, .inl ⟨hu, hv, ?_⟩⟩
      refine compI_map (us.zip vs) (items us vs hlen hsm hit _ rfl (fun j u ⟨x, y, e1, e2, e3⟩ => ⟨x, y, e1, e2, e3⟩) fun M' l => ⟨hu.le l, hv.le l⟩) (fun _ => .bl true) ?_ ?_
      · rintro ⟨x, y⟩ w M' hz rfl l
        obtain ⟨j, hj⟩ := List.mem_iff_getElem?.mp hz
        obtain ⟨e1, e2⟩ := List.getElem?_zip_eq_some.mp hj
        refine ⟨[x, y], ⟨x, y, rfl, rfl⟩, fun Y B' => ?_⟩
        show WE Y _ [some u, some v, none, some x, some y] M' _
        refine we_call B' ih (by omega) (by rfl) ?_
        repeat (walk_at "s")
        exact ⟨x, y, rfl, (hit j x y e1 e2).le l, rfl, LeM.refl⟩
      · intro D hD M' l
        repeat (walk_at "s")
        refine oc_all B.calm (bs := (us.zip vs).map fun _ => true) (.ref (by rw [List.map_map]; exact l _ _ updM_same)) ?_
        have e : ((us.zip vs).map fun _ => true).all id = true := by simp
        rw [e]
        exact ⟨M, (LeM.new hD).trans l, q⟩
    | @tup _ _ us vs hlen hsm hit =>
      show WSs X _ [some (.tup us), some (.tup vs), none, none, none] M _
      repeat (walk_at "s")
      refine oc_isi (.tup _) (b := false) (by decide +kernel) ?_
      refine ⟨_, .bl _, iteF ?_⟩
      repeat (walk_at "s")
      refine oc_isi (.tup _) (b := true) (by decide +kernel) ?_
      repeat (walk_at "s")
      refine oc_isi (.tup _) (b := true) (by decide +kernel) ?_
      repeat (walk_at "s")
      refine iteF ?_
      repeat (walk_at "s")
      refine oc_isi (.tup _) (b := false) (by decide +kernel) ?_
      repeat (walk_at "s")
      refine oc_isi (.tup _) (b := false) (by decide +kernel) ?_
      repeat (walk_at "s")
      refine iteF ?_
      repeat (walk_at "s")
      refine ⟨by show 2 ≤ sizeLine; decide, ?_⟩
      repeat (walk_at "s")
      refine oc_isi2 (.tup _) (b := false) (b' := true) (by decide +kernel) (by decide +kernel) ?_
      refine ⟨_, .bl _, iteT ?_⟩
      repeat (walk_at "s")
      refine ite_yes (decide_eq_true (by rw [hlen])) ?_
      repeat (walk_at "s")
      refine we_lc B [("_law_a", 3), ("_law_b", 4)] (by decide +kernel) (by decide) (pgI2 B (by walk_at "at") (by rfl) (by walk_at "at") (by rfl)) ctg2 ?_
      refine wi_zipA B (by rfl) hZ ?_
      repeat (walk_at "s")
      refine ⟨_, _, us, vs, rfl, .inr ⟨rfl, rfl, ?_⟩⟩
      refine compI_map (us.zip vs) (items us vs hlen hsm hit _ rfl (fun j u ⟨x, y, e1, e2, e3⟩ => ⟨x, y, e1, e2, e3⟩) fun M' l => trivial) (fun _ => .bl true) ?_ ?_
      · rintro ⟨x, y⟩ w M' hz rfl l
        obtain ⟨j, hj⟩ := List.mem_iff_getElem?.mp hz
        obtain ⟨e1, e2⟩ := List.getElem?_zip_eq_some.mp hj
        refine ⟨[x, y], ⟨x, y, rfl, rfl⟩, fun Y B' => ?_⟩
        show WE Y _ [some (.tup us), some (.tup vs), none, some x, some y] M' _
        refine we_call B' ih (by omega) (by rfl) ?_
        repeat (walk_at "s")
        exact ⟨x, y, rfl, (hit j x y e1 e2).le l, rfl, LeM.refl⟩
      · intro D hD M' l
        repeat (walk_at "s")
        refine oc_all B.calm (bs := (us.zip vs).map fun _ => true) (.ref (by rw [List.map_map]; exact l _ _ updM_same)) ?_
        have e : ((us.zip vs).map fun _ => true).all id = true := by simp
        rw [e]
        exact ⟨M, (LeM.new hD).trans l, q⟩
    | @dic _ _ a b kvs kws ha hb hab hk hx hit =>
      have bSo : bootBuiltins "sorted" = some (.builtin "sorted") := by decide +kernel
      show WSs X _ [some (.ref a), some (.ref b), none, none, none] M _
      repeat (walk_at "s")
      refine oc_isi (.dK hb) (b := true) (by decide +kernel) ?_
      refine ⟨_, .bl _, iteT ?_⟩
      repeat (walk_at "s")
      refine oc_isi (.dK ha) (b := true) (by decide +kernel) ?_
      refine ⟨_, .bl _, ?_⟩
      refine iteF ?_
      repeat (walk_at "s")
      have sz : kws.length < 64 := by have := hk.len; rw [List.length_map] at this; exact this
      have hu : X.A.units + 70 < cLine := by have := B.room.un; omega
      have hu64 : ∀ {α : Type} [DecidableEq α] [PySem.W.Datum α], PySem.W.Datum.depth α ≤ 64 → X.A.units + PySem.W.Datum.depth α < cLine := fun h => Nat.lt_of_le_of_lt (Nat.add_le_add_left h _) (by omega)
      have step : ∃ (k1 k2 : List VV), (∀ R : VQ, (∀ p M2, M p = none → LeM M M2 → M2 p = some (.lst k1) → R (.ref p) M2) → OC X (.builtin "sorted") [.ref a] M R) ∧ (∀ (M1 : Mp) (R : VQ), LeM M M1 → (∀ p M2, M1 p = none → LeM M1 M2 → M2 p = some (.lst k2) → R (.ref p) M2) → OC X (.builtin "sorted") [.ref b] M1 R) ∧
          ∀ (M2 : Mp) (p1 p2 : Addr) (R : VQ), M2 p1 = some (.lst k1) → M2 p2 = some (.lst k2) → R (.bl false) M2 → O2 X (compareOp .NotEq) (.ref p1) (.ref p2) M2 R := by
        generalize e1 : kvs.map (·.1) = K1 at hk
        generalize e2 : kws.map (·.1) = K2 at hk
        cases hk with
        | @str ks ls pm lt =>
          refine ⟨(srt ks).map .str, (srt ls).map .str, fun R h => oc_sortD1 B.calm (.inl ha) e1 lt fun ys p hp hs np => ?_, fun M1 R l h => oc_sortD1 B.calm (.inl (l _ _ hb)) e2 (by rw [← pm.length_eq]; exact lt) fun ys p hp hs np => ?_, fun M2 p1 p2 R h1 h2 q => ?_⟩
          · rw [srt_is hp hs]; exact h p _ np (LeM.new np) updM_same
          · rw [srt_is hp hs]; exact h p _ np (LeM.new np) updM_same
          · refine o2_neT (x := srt ks) (y := srt ls) (hu64 (by decide)) (dw_lst (v := VV.str) (fun i => .str i) (.ref h1)) (dw_lst (v := VV.str) (fun i => .str i) (.ref h2)) ?_
            rw [srt_congr pm, decide_eq_true rfl]
            exact q
        | @int ks ls pm lt =>
          have so : ∀ {ys zs : List Int}, ys.Perm zs → ys.Pairwise (· ≤ ·) → zs.Pairwise (· ≤ ·) → ys = zs := fun p h1 h2 => p.eq_of_pairwise (fun x y _ _ h1 h2 => Int.le_antisymm h1 h2) h1 h2
          have tr : ∀ x y z : Int, decide (x ≤ y) = true → decide (y ≤ z) = true → decide (x ≤ z) = true := fun x y z h1 h2 => by simp only [decide_eq_true_eq] at *; omega
          have to : ∀ x y : Int, (decide (x ≤ y) || decide (y ≤ x)) = true := fun x y => by simp only [Bool.or_eq_true, decide_eq_true_eq]; omega
          have sp : ∀ l : List Int, (l.mergeSort fun x y => decide (x ≤ y)).Pairwise (· ≤ ·) := fun l => (List.pairwise_mergeSort tr to l).imp fun h => by simpa using h
          have sm : ∀ l : List Int, (l.mergeSort fun x y => decide (x ≤ y)).Perm l := fun l => List.mergeSort_perm l _
          refine ⟨(ks.mergeSort fun x y => decide (x ≤ y)).map .int, (ls.mergeSort fun x y => decide (x ≤ y)).map .int, fun R h => oc_sortDI B.calm (.inl ha) e1 lt fun ys p hp hs np => ?_, fun M1 R l h => oc_sortDI B.calm (.inl (l _ _ hb)) e2 (by rw [← pm.length_eq]; exact lt) fun ys p hp hs np => ?_, fun M2 p1 p2 R h1 h2 q => ?_⟩
          · rw [so (hp.trans (sm ks).symm) hs (sp ks)]; exact h p _ np (LeM.new np) updM_same
          · rw [so (hp.trans (sm ls).symm) hs (sp ls)]; exact h p _ np (LeM.new np) updM_same
          · refine o2_neT (x := ks.mergeSort fun x y => decide (x ≤ y)) (y := ls.mergeSort fun x y => decide (x ≤ y)) (hu64 (by decide)) (dw_lst (v := VV.int) (fun i => .int i) (.ref h1)) (dw_lst (v := VV.int) (fun i => .int i) (.ref h2)) ?_
            rw [so ((sm ks).trans (pm.trans (sm ls).symm)) (sp ks) (sp ls), decide_eq_true rfl]
            exact q
      obtain ⟨k1, k2, s1, s2, s3⟩ := step
      refine s1 _ fun p1 M1 np1 l1 h1 => ?_
      repeat (walk_at "s")
      refine s2 M1 _ l1 fun p2 M2 np2 l2 h2 => ?_
      repeat (walk_at "s")
      refine s3 M2 p1 p2 _ (l2 _ _ h1) h2 ?_
      refine ⟨_, rfl, iteF ?_⟩
      have l3 := l1.trans l2
      clear s1 s2 s3 np1 np2 h1 h2 l1 l2
      repeat (walk_at "s")
      refine we_lock (l3 _ _ hb) fun o xs => ?_
      have lb := updM_same (M := M2) (a := b) (o := .lk o xs kws)
      have lM : LeM (dropM M b) (updM M2 b (.lk o xs kws)) := (dropM_le.trans l3).put dropM_at
      have la : updM M2 b (.lk o xs kws) a = some (.dK kvs) := by rw [updM_ne hab]; exact l3 _ _ ha
      have e0 : updM (updM M2 b (.lk o xs kws)) b (.dK kws) = M2 := by rw [updM_updM]; exact updM_id (l3 _ _ hb)
      have keep : ∀ M', LeM (updM M2 b (.lk o xs kws)) M' → LeM M (updM M' b (.dK kws)) := fun M' l c u e => by
        by_cases hc : c = b
        · subst hc; rw [updM_same, ← e]; exact hb.symm ▸ rfl
        · rw [updM_ne hc]
          exact l _ _ (by rw [updM_ne hc]; exact l3 _ _ e)
      generalize updM M2 b (.lk o xs kws) = M3 at lb lM la keep e0
      clear e0
      refine we_lc B [("_law_name", 2)] (by decide +kernel) (by decide) (pgI1 B (by walk_at "at") (by rfl)) ctg_name ?_
      refine wi_keysL ?_
      repeat (walk_at "s")
      refine ⟨b, o, xs, kws, rfl, lb, ?_⟩
      refine compI_map kws (itm_keyL lb (Nat.le_trans (Nat.le_of_lt sz) (by decide))) (fun _ => .bl true) ?_ ?_
      · rintro ⟨k, y⟩ u M' hm rfl l
        refine ⟨_, rfl, fun Y BY => ?_⟩
        show WE Y _ [some (.ref a), some (.ref b), some (kW k), none, none] M' _
        obtain ⟨⟨x, ex⟩, ey⟩ := hx k y hm
        refine we_call BY ih (by omega) (by rfl) ?_
        repeat (walk_at "s")
        refine oi_dic BY (z := x) (by have := Dg.k k (.inl (l _ _ la) : DkAt M' a kvs); rw [ex] at this; exact this) ?_
        repeat (walk_at "s")
        refine oi_dic BY (z := y) (by have := Dg.k k (.inr ⟨o, xs, l _ _ lb⟩ : DkAt M' b kws); rw [ey] at this; exact this) ?_
        repeat (walk_at "s")
        exact ⟨x, y, rfl, (hit k y x hm ex).le (lM.trans l), rfl, LeM.refl⟩
      · intro L nL M' l
        have lL := l _ _ updM_same
        have l4 := (LeM.new nL).trans l
        have hLb : L ≠ b := fun z => by subst z; rw [lb] at nL; cases nL
        refine ⟨l4 _ _ lb, ?_⟩
        repeat (walk_at "s")
        refine oc_all B.calm (bs := kws.map fun _ => true) (.ref (by rw [updM_ne hLb, List.map_map]; exact lL)) ?_
        have e : (kws.map fun _ => true).all id = true := by simp
        rw [e]
        exact ⟨M, keep _ l4, q⟩
end G3

set_option Elab.async false
set_option linter.all false
set_option maxRecDepth 100000
set_option maxHeartbeats 4000000
set_option pp.maxSteps 1000
namespace G3
open PySem PySem.Spec L2
local macro_rules | `(tactic| walk_at "at") => `(tactic| with_reducible (repeat (first | exact At.here | apply At.there)))
local macro_rules | `(tactic| walk_at "vis") => `(tactic| first | exact Or.inl rfl | exact Or.inr (Or.inl rfl) | exact Or.inr (Or.inr rfl))
local macro_rules | `(tactic| walk_at "loc") => `(tactic| first | exact Or.inl rfl | exact Or.inr rfl)
local macro_rules | `(tactic| walk_at "as") => `(tactic| with_reducible assumption)
local macro_rules | `(tactic| walk_at "e") => `(tactic| first
  | ((with_reducible show G3.WE _ (.Name _ _) _ _ _); first | refine we_nm (by walk_at "as") (by walk_at "at") (by walk_at "vis") (by rfl) ?_ | refine we_tyn (by walk_at "as") (by rfl) (by walk_at "as") (by walk_at "as") ?_ | refine we_cls (C := He.ga _ _) (by walk_at "as") (by rfl) (by walk_at "as") ?_ | refine we_nmH (by walk_at "as") (by walk_at "at") (by walk_at "vis") (by rfl) ?_ | refine we_tynH (by walk_at "as") (by rfl) (by walk_at "as") (by walk_at "as") ?_ | refine we_clsH (C := He.ga _ _) (by walk_at "as") (by rfl) (by walk_at "as") ?_)
  | ((with_reducible show G3.WE _ (.Constant (.int _) _ _) _ _ _); refine we_int ?_)
  | ((with_reducible show G3.WE _ (.Subscript _ (.Slice _ _ (some _) _) _) _ _ _); refine we_rev ?_)
  | ((with_reducible show G3.WE _ (.Subscript _ (.Slice _ _ none _) _) _ _ _); refine we_slice ?_)
  | ((with_reducible show G3.WE _ (.Subscript _ _ _) _ _ _); refine we_ix ?_)
  | ((with_reducible show G3.WE _ (.BinOp _ _ _ _) _ _ _); refine we_op ?_)
  | ((with_reducible show G3.WE _ (.Call (.Name _ _) _ _ _) _ _ _); first
      | refine we_call (by walk_at "as") (by walk_at "as") (by decide) (by rfl) ?_
      | refine we_callB (by walk_at "as") (by rfl) (by walk_at "as") (by walk_at "as") ?_
      | refine we_callTy (by walk_at "as") (by rfl) (by walk_at "as") (by walk_at "as") ?_
      | refine we_callX (by walk_at "as") (by walk_at "as") (by walk_at "as") (by decide) (by rfl) (by walk_at "as") ?_
      | refine we_callBH (by walk_at "as") (by rfl) (by walk_at "as") (by walk_at "as") ?_)
  | ((with_reducible show G3.WE _ (.Attribute _ _ _) _ _ _); first | refine we_fld (by walk_at "as") ?_ | refine we_xfH (by walk_at "as") (by walk_at "as") (by walk_at "as") (by walk_at "as") ?_)
  | ((with_reducible show G3.WE _ (.Tuple _ _ _) _ _ _); refine we_tup ?_)
  | ((with_reducible show G3.WE _ (.List _ _) _ _ _); first | refine we_lstN ?_ | refine we_lst ?_)
  | ((with_reducible show G3.WE _ (.Compare _ [_] _ _) _ _ _); refine we_cmp ?_)
  | ((with_reducible show G3.WE _ (.Compare _ [_, _] _ _) _ _ _); refine we_chain ?_)
  | ((with_reducible show G3.WE _ (.UnaryOp .Not _ _) _ _ _); refine we_not ?_)
  | ((with_reducible show G3.WE _ (.UnaryOp _ _ _) _ _ _); refine we_un ?_)
  | ((with_reducible show G3.WE _ (.IfExp _ _ _ _) _ _ _); refine we_if ?_)
  | ((with_reducible show G3.WE _ (.Constant _ _ _) _ _ _); first | refine we_bl ?_ | refine we_non ?_ | refine we_str ?_)
  | ((with_reducible show G3.WE _ (.JoinedStr (_ :: _ :: _) _) _ _ _); refine we_joined ?_)
  | ((with_reducible show G3.WE _ (.FormattedValue _ _ _ _) _ _ _); refine we_fmt ?_)
  | ((with_reducible show G3.WE _ (.BoolOp _ [_] _) _ _ _); refine we_one ?_)
  | ((with_reducible show G3.WE _ (.BoolOp .And _ _) _ _ _); refine we_and ?_)
  | ((with_reducible show G3.WE _ (.BoolOp .Or _ _) _ _ _); refine we_or ?_))
local macro_rules | `(tactic| walk_at "t") => `(tactic| first
  | ((with_reducible show WT _ (.Compare _ [_] _ _) _ _ _); refine wt_cmp ?_)
  | ((with_reducible show WT _ (.Compare _ [_, _] _ _) _ _ _); refine wt_chain ?_)
  | ((with_reducible show WT _ (.UnaryOp .Not _ _) _ _ _); refine wt_not ?_)
  | ((with_reducible show WT _ (.BoolOp .And _ _) _ _ _); refine wt_w (ww_and ?_))
  | ((with_reducible show WT _ (.BoolOp .Or _ _) _ _ _); refine wt_w (ww_or ?_))
  | refine wt_truth ?_)
local macro_rules | `(tactic| walk_at "w") => `(tactic| first
  | ((with_reducible show WW _ (.BoolOp .And [_] _) _ _ _); refine ww_and1 ?_)
  | ((with_reducible show WW _ (.BoolOp .Or [_] _) _ _ _); refine ww_or1 ?_)
  | ((with_reducible show WW _ (.BoolOp .And _ _) _ _ _); refine ww_and ?_)
  | ((with_reducible show WW _ (.BoolOp .Or _ _) _ _ _); refine ww_or ?_))
local macro_rules | `(tactic| walk_at "st") => `(tactic| first
  | ((with_reducible show WS _ (.Assign [.Name _ _] (.ListComp _ _ _ _) _) _ _ _); fail)
  | ((with_reducible show WS _ (.Assign [.Name _ _] _ _) _ _ _); first | refine ws_set (by walk_at "as") (by walk_at "at") (by walk_at "loc") ?_ | refine ws_setH (by walk_at "as") (by walk_at "at") (by walk_at "loc") ?_)
  | ((with_reducible show WS _ (.Return (some _) _) _ _ _); refine ws_ret ?_)
  | ((with_reducible show WS _ (.If _ _ _ _) _ _ _); refine ws_if ?_)
  | ((with_reducible show WS _ (.Expr (.Call (.Attribute _ "append" _) _ _ _) _) _ _ _); refine ws_append ?_)
  | ((with_reducible show WS _ (.Expr (.Call (.Attribute _ "insert" _) _ _ _) _) _ _ _); refine ws_insert ?_)
  | ((with_reducible show WS _ (.Expr _ _) _ _ _); refine ws_expr ?_)
  | ((with_reducible show WS _ (.Assign [.Tuple _ _ _] (.Tuple _ _ _) _) _ _ _); first
      | refine ws_par2 (by walk_at "as") (by walk_at "at") (by walk_at "at") (by rfl) (by rfl) (by rfl) (by rfl) ?_
      | refine ws_asgT (by walk_at "as") (by rfl) ?_)
  | ((with_reducible show WS _ (.Raise (some _) none _) _ _ _); refine ws_raise (by walk_at "as") (by walk_at "as") ?_)
  | ((with_reducible show WS _ (.Assign [_] _ _) _ _ _); (fail_if_success (with_reducible show WS _ (.Assign [.Attribute _ _ _] _ _) _ _ _)); refine ws_asg ?_)
  | ((with_reducible show WS _ (.Return none _) _ _ _); refine ws_retN ?_)
  | ((with_reducible show WS _ (.Pass _) _ _ _); refine ws_pass ?_)
  | ((with_reducible show WS _ (.Break _) _ _ _); refine ws_break ?_)
  | ((with_reducible show WS _ (.Continue _) _ _ _); refine ws_continue ?_))
local macro_rules | `(tactic| walk_at "mul") => `(tactic| with_unfolding_all first
  | exact cml (by decide) (by decide)
  | exact cmr (by decide) (by decide)
  | exact cmw (by with_reducible assumption) (by with_reducible assumption) (by decide) (by decide) (by decide)
  | exact cml (by omega) (by omega)
  | exact cmr (by omega) (by omega))
local macro_rules | `(tactic| walk_at "o2") => `(tactic| with_reducible first
  | refine o2_add ?_
  | refine o2_sub ?_
  | refine o2_mul (by walk_at "mul") ?_
  | refine o2_lt ?_
  | refine o2_le ?_
  | refine o2_gt ?_
  | refine o2_ge ?_
  | refine o2_eqi ?_
  | refine o2_nei ?_
  | refine o2_eqb ?_
  | refine o2_neb ?_
  | refine o2_eqs ?_
  | refine o2_nes ?_
  | refine o2_isN ?_
  | refine o2_notN ?_)
local macro_rules | `(tactic| walk_at "x") => `(tactic| first
  | ((with_reducible show G3.WE _ _ _ _ _); walk_at "e")
  | ((with_reducible show WA _ _ _ _ _); first | refine wa_cons ?_ | refine wa_nil ?_)
  | ((with_reducible show WMk _ (.Call (.Name _ _) [] _ _) _ _ _); refine wmk_own0 (by walk_at "as") (by walk_at "as") (by decide) (by rfl) ?_)
  | ((with_reducible show WO _ _ _ _ _); first | (show G3.WE _ _ _ _ _))
  | ((with_reducible show WT _ _ _ _ _); walk_at "t")
  | ((with_reducible show G3.WJ _ _ _ _ _ _); first | refine wj_cons ?_ | refine wj_nil ?_)
  | ((with_reducible show G3.WK _ _ _ _ _); first | refine wk_cons ?_ | refine wk_nil ?_)
  | ((with_reducible show WW _ _ _ _ _); walk_at "w")
  | ((with_reducible show WS _ _ _ _ _); walk_at "st")
  | ((with_reducible show O2 _ _ _ _ _ _); walk_at "o2")
  | ((with_reducible show OI _ (.tup _) _ _ _); refine oi_tup rfl ?_)
  | ((with_reducible show OC _ _ _ _ _); with_reducible first | refine oc_abs ?_ | refine oc_int ?_ | refine oc_intb ?_ | refine oc_lenT ?_)
  | ((with_reducible show O1 _ _ _ _ _); refine o1_neg ?_)
  | ((with_reducible show BQ _ _ _); refine ⟨_, rfl, ?_⟩)
  | ((with_reducible show WG _ _ _ _ _ _); first | refine wg_name (by walk_at "as") (by walk_at "at") (by walk_at "loc") ?_ | refine wg_tup (by walk_at "as") ?_)
  | ((with_reducible show WGs _ _ _ _ _ _); first | refine wgs_cons (by walk_at "as") (by walk_at "at") (by walk_at "loc") ?_ | refine wgs_nil ?_))
local macro_rules | `(tactic| walk_at "s") => `(tactic| first
  | walk_at "x"
  | ((with_reducible show WSs _ _ _ _ _); first | refine wss_cons ?_ | refine wss_nil ?_))
theorem df_room {E : Ev} (hL : E.mg "len" = none) (hN : E.mg "int" = none) (T : Tx E "_law_room" (top 19) ["_law_pair", "_law_name", "_law_tall_by", "_law_corner"]) : E.df 1 "_law_room" ["_law_pair", "_law_name", "_law_tall_by", "_law_corner"] spRoom := by
  refine T.df ["_law_pair", "_law_name", "_law_tall_by", "_law_corner", "_law_wide", "_law_tall", "_law_left", "_law_low"] ⟨rfl, rfl, rfl, by decide +kernel, rfl, by decide +kernel, by decide +kernel⟩ (fun ws M Q ⟨_, _, _, _, e, _⟩ => by rw [e]; rfl) fun X B ws M Q ⟨p, n, t, k, e, hk, hn, t0, t1, q⟩ => ?_
  subst e
  have bL := bb_len
  have bN := bb_int
  show WSs X _ [some (vpf p), some (.str n), some (.int t), some (.str (sideS k)), none, none, none, none] M _
  repeat (walk_at "s")
  refine oc_lenS (Nat.le_trans hn (by decide)) ?_
  repeat (walk_at "s")
  refine ⟨_, _, rfl, ?_⟩
  repeat (walk_at "s")
  refine oi_ftp (atI_nat (j := 0) rfl) ?_
  repeat (walk_at "s")
  refine ⟨by show 2 ≤ sizeLine; decide, ?_⟩
  refine o2_inTx (ns := [Str.ofString "nw", Str.ofString "sw"]) ?_
  rw [side_w hk]
  repeat (walk_at "s")
  refine oi_ftp (atI_nat (j := 1) rfl) ?_
  repeat (walk_at "s")
  refine ⟨by show 2 ≤ sizeLine; decide, ?_⟩
  refine o2_inTx (ns := [Str.ofString "se", Str.ofString "sw"]) ?_
  rw [side_s hk]
  repeat (walk_at "s")
  refine ⟨by show 4 ≤ sizeLine; decide, ?_⟩
  have e1 : (n.length : Int) * t * (if decide (k % 2 = 1) = true then 1 else 0) = if k % 2 = 1 then wideF n t else 0 := by
    by_cases h : k % 2 = 1
    · rw [if_pos h, if_pos (decide_eq_true h), Int.mul_one]; rfl
    · rw [if_neg h, if_neg (by rw [decide_eq_false h]; exact Bool.false_ne_true), Int.mul_zero]
  have e2 : t * (if decide (2 ≤ k) = true then 1 else 0) = if 2 ≤ k then t else 0 := by
    by_cases h : 2 ≤ k
    · rw [if_pos h, if_pos (decide_eq_true h), Int.mul_one]
    · rw [if_neg h, if_neg (by rw [decide_eq_false h]; exact Bool.false_ne_true), Int.mul_zero]
  rw [e1, e2]
  exact ⟨M, LeM.refl, q⟩
theorem df_touch {E : Ev} (T : Tx E "_law_touch" (top 20) ["_law_one", "_law_other"]) : E.df 1 "_law_touch" ["_law_one", "_law_other"] spTouch := by
  refine T.df ["_law_one", "_law_other"] ⟨rfl, rfl, rfl, by decide +kernel, rfl, by decide +kernel, by decide +kernel⟩ (fun ws M Q ⟨_, _, e, _⟩ => by rw [e]; rfl) fun X B ws M Q ⟨a, b, e, ha, hb, q⟩ => ?_
  subst e
  rw [meetB_is ha hb] at q
  show WSs X _ [some (vbx a), some (vbx b)] M _
  repeat (walk_at "s")
  refine ite_dec (fun h1 => ?_) (fun h1 => ?_)
  · rw [decide_eq_true h1] at q
    repeat (walk_at "s")
    refine ite_dec (fun h2 => ?_) (fun h2 => ?_)
    · rw [decide_eq_true h2] at q
      repeat (walk_at "s")
      refine ite_dec (fun h3 => ?_) (fun h3 => ?_)
      · rw [decide_eq_true h3] at q
        repeat (walk_at "s")
        exact ⟨M, LeM.refl, q⟩
      · rw [decide_eq_false h3] at q
        exact ⟨M, LeM.refl, q⟩
    · rw [decide_eq_false h2] at q
      exact ⟨M, LeM.refl, q⟩
  · rw [decide_eq_false h1] at q
    exact ⟨M, LeM.refl, q⟩
theorem df_rankO {E : Ev} (hX : E.xc) (hS : E.mg "sorted" = none) (tb : LamX.TabB E.base E.mg (codP E.K "_law_rank_order") (tabP E.K "_law_rank_order")) (T : TxC E "_law_rank_order" (top 18) ["_law_sites"]) : E.df 1 "_law_rank_order" ["_law_sites"] (spRankO (tabP E.K "_law_rank_order")) := by
  refine T.df hX tb ["_law_sites"] ⟨rfl, rfl, rfl, by decide +kernel, rfl, by decide +kernel, by decide +kernel⟩ (fun ws M Q ⟨_, _, e, _⟩ => by rw [e]; rfl) fun X B C ws M Q ⟨d, l, e, hd, hP, q⟩ => ?_
  subst e
  show WSs X _ [some (.ref d)] M _
  refine wss_cons (ws_ret ?_)
  refine we_sortBy B C (by rfl) hS (i := 0) (a := d) (by walk_at "at") (.inl rfl) (by rfl) hd (rankF l) (fun n b hb => ⟨_, by unfold rankF; rw [hb]; rfl⟩) hP fun r M2 nr l2 hr => ?_
  exact ⟨M2, LeM.refl, q r M2 nr l2 hr⟩
end G3

set_option Elab.async false
set_option linter.all false
set_option maxRecDepth 100000
set_option maxHeartbeats 4000000
set_option pp.maxSteps 1000
namespace G3
open PySem PySem.Spec L2
local macro_rules | `(tactic| walk_at "at") => `(tactic| with_reducible (repeat (first | exact At.here | apply At.there)))
local macro_rules | `(tactic| walk_at "vis") => `(tactic| first | exact Or.inl rfl | exact Or.inr (Or.inl rfl) | exact Or.inr (Or.inr rfl))
local macro_rules | `(tactic| walk_at "loc") => `(tactic| first | exact Or.inl rfl | exact Or.inr rfl)
local macro_rules | `(tactic| walk_at "as") => `(tactic| with_reducible assumption)
local macro_rules | `(tactic| walk_at "e") => `(tactic| first
  | ((with_reducible show G3.WE _ (.Name _ _) _ _ _); first | refine we_nm (by walk_at "as") (by walk_at "at") (by walk_at "vis") (by rfl) ?_ | refine we_tyn (by walk_at "as") (by rfl) (by walk_at "as") (by walk_at "as") ?_ | refine we_cls (C := He.ga _ _) (by walk_at "as") (by rfl) (by walk_at "as") ?_ | refine we_nmH (by walk_at "as") (by walk_at "at") (by walk_at "vis") (by rfl) ?_ | refine we_tynH (by walk_at "as") (by rfl) (by walk_at "as") (by walk_at "as") ?_ | refine we_clsH (C := He.ga _ _) (by walk_at "as") (by rfl) (by walk_at "as") ?_)
  | ((with_reducible show G3.WE _ (.Constant (.int _) _ _) _ _ _); refine we_int ?_)
  | ((with_reducible show G3.WE _ (.Subscript _ (.Slice _ _ (some _) _) _) _ _ _); refine we_rev ?_)
  | ((with_reducible show G3.WE _ (.Subscript _ (.Slice _ _ none _) _) _ _ _); refine we_slice ?_)
  | ((with_reducible show G3.WE _ (.Subscript _ _ _) _ _ _); refine we_ix ?_)
  | ((with_reducible show G3.WE _ (.BinOp _ _ _ _) _ _ _); refine we_op ?_)
  | ((with_reducible show G3.WE _ (.Call (.Name _ _) _ _ _) _ _ _); first
      | refine we_call (by walk_at "as") (by walk_at "as") (by decide) (by rfl) ?_
      | refine we_callB (by walk_at "as") (by rfl) (by walk_at "as") (by walk_at "as") ?_
      | refine we_callTy (by walk_at "as") (by rfl) (by walk_at "as") (by walk_at "as") ?_
      | refine we_callX (by walk_at "as") (by walk_at "as") (by walk_at "as") (by decide) (by rfl) (by walk_at "as") ?_
      | refine we_callBH (by walk_at "as") (by rfl) (by walk_at "as") (by walk_at "as") ?_)
  | ((with_reducible show G3.WE _ (.Attribute _ _ _) _ _ _); first | refine we_fld (by walk_at "as") ?_ | refine we_xfH (by walk_at "as") (by walk_at "as") (by walk_at "as") (by walk_at "as") ?_)
  | ((with_reducible show G3.WE _ (.Tuple _ _ _) _ _ _); refine we_tup ?_)
  | ((with_reducible show G3.WE _ (.List _ _) _ _ _); first | refine we_lstN ?_ | refine we_lst ?_)
  | ((with_reducible show G3.WE _ (.Compare _ [_] _ _) _ _ _); refine we_cmp ?_)
  | ((with_reducible show G3.WE _ (.Compare _ [_, _] _ _) _ _ _); refine we_chain ?_)
  | ((with_reducible show G3.WE _ (.UnaryOp .Not _ _) _ _ _); refine we_not ?_)
  | ((with_reducible show G3.WE _ (.UnaryOp _ _ _) _ _ _); refine we_un ?_)
  | ((with_reducible show G3.WE _ (.IfExp _ _ _ _) _ _ _); refine we_if ?_)
  | ((with_reducible show G3.WE _ (.Constant _ _ _) _ _ _); first | refine we_bl ?_ | refine we_non ?_ | refine we_str ?_)
  | ((with_reducible show G3.WE _ (.JoinedStr (_ :: _ :: _) _) _ _ _); refine we_joined ?_)
  | ((with_reducible show G3.WE _ (.FormattedValue _ _ _ _) _ _ _); refine we_fmt ?_)
  | ((with_reducible show G3.WE _ (.BoolOp _ [_] _) _ _ _); refine we_one ?_)
  | ((with_reducible show G3.WE _ (.BoolOp .And _ _) _ _ _); refine we_and ?_)
  | ((with_reducible show G3.WE _ (.BoolOp .Or _ _) _ _ _); refine we_or ?_))
local macro_rules | `(tactic| walk_at "t") => `(tactic| first
  | ((with_reducible show WT _ (.Compare _ [_] _ _) _ _ _); refine wt_cmp ?_)
  | ((with_reducible show WT _ (.Compare _ [_, _] _ _) _ _ _); refine wt_chain ?_)
  | ((with_reducible show WT _ (.UnaryOp .Not _ _) _ _ _); refine wt_not ?_)
  | ((with_reducible show WT _ (.BoolOp .And _ _) _ _ _); refine wt_w (ww_and ?_))
  | ((with_reducible show WT _ (.BoolOp .Or _ _) _ _ _); refine wt_w (ww_or ?_))
  | refine wt_truth ?_)
local macro_rules | `(tactic| walk_at "w") => `(tactic| first
  | ((with_reducible show WW _ (.BoolOp .And [_] _) _ _ _); refine ww_and1 ?_)
  | ((with_reducible show WW _ (.BoolOp .Or [_] _) _ _ _); refine ww_or1 ?_)
  | ((with_reducible show WW _ (.BoolOp .And _ _) _ _ _); refine ww_and ?_)
  | ((with_reducible show WW _ (.BoolOp .Or _ _) _ _ _); refine ww_or ?_))
local macro_rules | `(tactic| walk_at "st") => `(tactic| first
  | ((with_reducible show WS _ (.Assign [.Name _ _] (.ListComp _ _ _ _) _) _ _ _); fail)
  | ((with_reducible show WS _ (.Assign [.Name _ _] _ _) _ _ _); first | refine ws_set (by walk_at "as") (by walk_at "at") (by walk_at "loc") ?_ | refine ws_setH (by walk_at "as") (by walk_at "at") (by walk_at "loc") ?_)
  | ((with_reducible show WS _ (.Return (some _) _) _ _ _); refine ws_ret ?_)
  | ((with_reducible show WS _ (.If _ _ _ _) _ _ _); refine ws_if ?_)
  | ((with_reducible show WS _ (.Expr (.Call (.Attribute _ "append" _) _ _ _) _) _ _ _); refine ws_append ?_)
  | ((with_reducible show WS _ (.Expr (.Call (.Attribute _ "insert" _) _ _ _) _) _ _ _); refine ws_insert ?_)
  | ((with_reducible show WS _ (.Expr _ _) _ _ _); refine ws_expr ?_)
  | ((with_reducible show WS _ (.Assign [.Tuple _ _ _] (.Tuple _ _ _) _) _ _ _); first
      | refine ws_par2 (by walk_at "as") (by walk_at "at") (by walk_at "at") (by rfl) (by rfl) (by rfl) (by rfl) ?_
      | refine ws_asgT (by walk_at "as") (by rfl) ?_)
  | ((with_reducible show WS _ (.Raise (some _) none _) _ _ _); refine ws_raise (by walk_at "as") (by walk_at "as") ?_)
  | ((with_reducible show WS _ (.Assign [_] _ _) _ _ _); (fail_if_success (with_reducible show WS _ (.Assign [.Attribute _ _ _] _ _) _ _ _)); refine ws_asg ?_)
  | ((with_reducible show WS _ (.Return none _) _ _ _); refine ws_retN ?_)
  | ((with_reducible show WS _ (.Pass _) _ _ _); refine ws_pass ?_)
  | ((with_reducible show WS _ (.Break _) _ _ _); refine ws_break ?_)
  | ((with_reducible show WS _ (.Continue _) _ _ _); refine ws_continue ?_))
local macro_rules | `(tactic| walk_at "mul") => `(tactic| with_unfolding_all first
  | exact cml (by decide) (by decide)
  | exact cmr (by decide) (by decide)
  | exact cmw (by with_reducible assumption) (by with_reducible assumption) (by decide) (by decide) (by decide)
  | exact cml (by omega) (by omega)
  | exact cmr (by omega) (by omega))
local macro_rules | `(tactic| walk_at "o2") => `(tactic| with_reducible first
  | refine o2_add ?_
  | refine o2_sub ?_
  | refine o2_mul (by walk_at "mul") ?_
  | refine o2_lt ?_
  | refine o2_le ?_
  | refine o2_gt ?_
  | refine o2_ge ?_
  | refine o2_eqi ?_
  | refine o2_nei ?_
  | refine o2_eqb ?_
  | refine o2_neb ?_
  | refine o2_eqs ?_
  | refine o2_nes ?_
  | refine o2_isN ?_
  | refine o2_notN ?_)
local macro_rules | `(tactic| walk_at "x") => `(tactic| first
  | ((with_reducible show G3.WE _ _ _ _ _); walk_at "e")
  | ((with_reducible show WA _ _ _ _ _); first | refine wa_cons ?_ | refine wa_nil ?_)
  | ((with_reducible show WMk _ (.Call (.Name _ _) [] _ _) _ _ _); refine wmk_own0 (by walk_at "as") (by walk_at "as") (by decide) (by rfl) ?_)
  | ((with_reducible show WO _ _ _ _ _); first | (show G3.WE _ _ _ _ _))
  | ((with_reducible show WT _ _ _ _ _); walk_at "t")
  | ((with_reducible show G3.WJ _ _ _ _ _ _); first | refine wj_cons ?_ | refine wj_nil ?_)
  | ((with_reducible show G3.WK _ _ _ _ _); first | refine wk_cons ?_ | refine wk_nil ?_)
  | ((with_reducible show WW _ _ _ _ _); walk_at "w")
  | ((with_reducible show WS _ _ _ _ _); walk_at "st")
  | ((with_reducible show O2 _ _ _ _ _ _); walk_at "o2")
  | ((with_reducible show OI _ (.tup _) _ _ _); refine oi_tup rfl ?_)
  | ((with_reducible show OC _ _ _ _ _); with_reducible first | refine oc_abs ?_ | refine oc_int ?_ | refine oc_intb ?_ | refine oc_lenT ?_)
  | ((with_reducible show O1 _ _ _ _ _); refine o1_neg ?_)
  | ((with_reducible show BQ _ _ _); refine ⟨_, rfl, ?_⟩)
  | ((with_reducible show WG _ _ _ _ _ _); first | refine wg_name (by walk_at "as") (by walk_at "at") (by walk_at "loc") ?_ | refine wg_tup (by walk_at "as") ?_)
  | ((with_reducible show WGs _ _ _ _ _ _); first | refine wgs_cons (by walk_at "as") (by walk_at "at") (by walk_at "loc") ?_ | refine wgs_nil ?_))
local macro_rules | `(tactic| walk_at "s") => `(tactic| first
  | walk_at "x"
  | ((with_reducible show WSs _ _ _ _ _); first | refine wss_cons ?_ | refine wss_nil ?_))
theorem df_llett5 {E : Ev} {P : Addr} (D1 : E.df 1 "_law_rank_order" ["_law_sites"] (spRankO P)) (D2 : E.df 1 "_law_room" ["_law_pair", "_law_name", "_law_tall_by", "_law_corner"] spRoom) (D3 : E.df 1 "_law_touch" ["_law_one", "_law_other"] spTouch)
    (T : Tx E "_law_lettered" (top 21) ["_law_sites", "_law_tall_by"]) : E.df 2 "_law_lettered" ["_law_sites", "_law_tall_by"] (spLLett5 P) := by
  refine T.df ["_law_sites", "_law_tall_by", "_law_row", "_law_found", "_law_stood", "_law_name", "_law_pair", "_law_upright", "_law_rooms", "_law_bars", "_law_corner", "_law_room_here", "_law_by", "_law_other", "_law_x", "_law_y"] ⟨rfl, rfl, rfl, by decide +kernel, rfl, by decide +kernel, by decide +kernel⟩ (fun ws M Q ⟨_, _, _, e, _⟩ => by rw [e]; rfl) fun X B ws M Q ⟨d, l, t, e, hd, hP, ok, q⟩ => ?_
  subst e
  have hu : X.A.units + 65 < cLine := by have := B.room.un; omega
  have on := ord_nd ok.d
  have ol := ord_len l
  have oln : (ordF l).length ≤ 20 := by rw [ol]; exact ok.len
  show WSs X _ [some (.ref d), some (.int t), none, none, none, none, none, none, none, none, none, none, none, none, none, none] M _
  repeat (walk_at "s")
  refine ⟨d, l, rfl, .inl hd, hP, fun L M1 nL l1 hL => ?_⟩
  repeat (walk_at "s")
  refine we_dnewN fun F M2 nF l2 hF => ?_
  repeat (walk_at "s")
  refine we_dnewT fun S nS => ?_
  have l3 := LeM.new (o := .dT []) nS
  have hS : updM M2 S (.dT []) S = some (.dT (dTS [])) := updM_same
  generalize updM M2 S (.dT []) = M3 at l3 hS
  have l03 := l1.trans (l2.trans l3)
  have LF : L ≠ F := fun z => by subst z; rw [hL] at nF; cases nF
  replace hL := l2 _ _ hL
  have LS : L ≠ S := fun z => by subst z; rw [hL] at nS; cases nS
  have FS : F ≠ S := fun z => by subst z; rw [hF] at nS; cases nS
  have nSM : M S = none := l1.none (l2.none nS)
  have nFM : M F = none := l1.none nF
  replace hL := l3 _ _ hL
  have hF : M3 F = some (.dK (lettK (fun _ => 0) (ltOf (prF l) t (ordF l)) [])) := l3 _ _ hF
  clear l1 l2 l3 nL nF nS
  generalize hlt : ltOf (prF l) t (ordF l) = lt at q hF
  show WSs X _ [some (.ref d), some (.int t), some (.ref L), some (.ref F), some (.ref S), none, none, none, none, none, none, none, none, none, none, none] M3 _
  refine wss_cut (fun σ M' => ∃ (x5 x6 x7 x8 x9 x10 x11 x12 x13 x14 x15 : Option VV), σ = [some (.ref d), some (.int t), some (.ref L), some (.ref F), some (.ref S), x5, x6, x7, x8, x9, x10, x11, x12, x13, x14, x15] ∧ LeM M M' ∧ M' L = some (.lst ((ordF l).map .str)) ∧ M' F = some (.dK (lettK (fun _ => 0) lt ((ordF l).filter fun n => !isSt (prF l) (ordF l) n)))) ?_ ?_
  · refine ws_forLst B ?_
    repeat (walk_at "s")
    refine ⟨_, .ref hL, fun i σ M' => ∃ (x5 x6 x7 x8 x9 x10 x11 x12 x13 x14 x15 : Option VV), σ = [some (.ref d), some (.int t), some (.ref L), some (.ref F), some (.ref S), x5, x6, x7, x8, x9, x10, x11, x12, x13, x14, x15] ∧ LeM M M' ∧ M' L = some (.lst ((ordF l).map .str)) ∧ M' S = some (.dT (dTS (standF (prF l) ((ordF l).take i)))) ∧ M' F = some (.dK (lettK (fun _ => 0) lt (((ordF l).take i).filter fun n => !isSt (prF l) (ordF l) n))),
      ⟨_, _, _, _, _, _, _, _, _, _, _, rfl, l03, hL, hS, hF⟩, ?_, ?_, ?_⟩
    · rintro i σ M' _ ⟨x5, x6, x7, x8, x9, x10, x11, x12, x13, x14, x15, rfl, _, h, _⟩
      exact .ref h
    · rintro i u σ M5 hi hu5 ⟨x5, x6, x7, x8, x9, x10, x11, x12, x13, x14, x15, rfl, l5, hL5, hS5, hF5⟩
      rw [List.length_map] at hi
      have hn := some_of hi
      rw [List.getElem?_map, hn] at hu5
      cases hu5
      have hmem := List.mem_of_getElem? hn
      generalize (ordF l)[i] = n at hn hmem
      obtain ⟨s, hs, es, _⟩ := ord_get hmem
      have nti := not_in_take on hn
      have tk : (ordF l).take (i + 1) = (ordF l).take i ++ [n] := by rw [List.take_add_one, hn]; rfl
      have sl : (standF (prF l) ((ordF l).take i)).length ≤ 20 := by
        have h1 := congrArg List.length (stand_names (prF l) on i (by omega))
        rw [List.length_map] at h1
        rw [h1]
        exact Nat.le_trans (List.length_filter_le _ _) (by rw [List.length_take]; omega)
      obtain ⟨a1, a2⟩ := stand_at (prF l) on hn
      rw [es] at a1 a2
      have hd5 := l5 _ _ hd
      repeat (walk_at "s")
      refine oi_dS B (.inl hd5) hs ?_
      repeat (walk_at "s")
      refine o2_inD2 B (o := (headAt (standF (prF l) ((ordF l).take i)) s.1).map VV.str) (by have := Dg.t (ptK s.1) (.inl hS5 : DtAt M5 S (dTS (standF (prF l) ((ordF l).take i)))); rw [dTS_look] at this; exact this) ?_
      rw [Option.isSome_map]
      refine ⟨_, rfl, ?_⟩
      cases h0 : headAt (standF (prF l) ((ordF l).take i)) s.1 with
      | none =>
        obtain ⟨b1, b2⟩ := a1 h0
        refine iteF ?_
        repeat (walk_at "s")
        refine wg_sub ?_
        repeat (walk_at "s")
        refine oset_dT B (ptK s.1) hS5 (by rw [List.length_map]; exact Nat.lt_of_le_of_lt sl (by decide)) ?_
        rw [putW_new (by rw [dTS_look, h0]; rfl)]
        repeat (walk_at "s")
        refine ⟨_, _, _, _, _, _, _, _, _, _, _, rfl, l5.put nSM, by rw [updM_ne LS]; exact hL5, ?_, ?_⟩
        · rw [updM_same, b2]
          simp only [dTS, List.map_append, List.map_cons, List.map_nil]
        · rw [updM_ne FS, hF5, tk, List.filter_append]
          simp [b1]
      | some o =>
        obtain ⟨b1, b2, b3⟩ := a2 o h0
        have ltn : lt n = .under o := by
          rw [← hlt]
          unfold ltOf
          rw [b1, es, b2]
          rfl
        refine iteT ?_
        repeat (walk_at "s")
        refine oi_dT B (.inl hS5) h0 ?_
        repeat (walk_at "s")
        refine ⟨by show 2 ≤ sizeLine; decide, ?_⟩
        refine wg_sub ?_
        repeat (walk_at "s")
        have nu : n ∉ ((ordF l).take i).filter fun n => !isSt (prF l) (ordF l) n := fun z => nti (List.mem_filter.mp z).1
        have fu : (((ordF l).take i).filter fun n => !isSt (prF l) (ordF l) n).length ≤ 20 := Nat.le_trans (List.length_filter_le _ _) (by rw [List.length_take]; omega)
        refine oset_dK B (.inr n) hF5 (by rw [List.length_map]; exact Nat.lt_of_le_of_lt fu (by decide)) ?_
        rw [putW_new (lett_none nu)]
        repeat (walk_at "s")
        refine ⟨_, _, _, _, _, _, _, _, _, _, _, rfl, l5.put nFM, by rw [updM_ne LF]; exact hL5, ?_, ?_⟩
        · rw [updM_ne FS.symm, hS5, b3]
        · rw [updM_same, tk, List.filter_append]
          have e3 : [n].filter (fun n => !isSt (prF l) (ordF l) n) = [n] := by simp [b1]
          rw [e3, lett_snoc (v := .tup [.str "under", .str o]) (congrArg (ltv 0) ltn)]
    · rintro σ M4 ⟨x5, x6, x7, x8, x9, x10, x11, x12, x13, x14, x15, rfl, l4, hL4, hS4, hF4⟩
      rw [List.length_map, List.take_length] at hF4
      exact ⟨_, _, _, _, _, _, _, _, _, _, _, rfl, l4, hL4, hF4⟩
  rintro σ M4 ⟨x5, x6, x7, x8, x9, x10, x11, x12, x13, x14, x15, rfl, l4, hL4, hF4⟩
  clear hS hF hL l03
  refine wss_cons ?_
  refine ws_setLc B [("_law_name", 5)] (by walk_at "at") (by rfl) (by rfl) (by decide +kernel) (by decide) (pgI1 B (by walk_at "at") (by rfl)) ctg_name ?_
  refine wi_lst ?_
  repeat (walk_at "s")
  refine ⟨_, .ref hL4, ?_⟩
  refine compI_filter (ordF l) (itm_lst (v := VV.str) (.ref hL4) (Nat.le_trans oln (by decide))) (fun n => isSt (prF l) (ordF l) n) (fun n => .str n) ?_ ?_
  · rintro n u M5 hn rfl l5
    refine ⟨_, rfl, fun Y BY => ?_⟩
    show WT Y _ [some (.ref d), some (.int t), some (.ref L), some (.ref F), some (.ref S), some (.str n), x6, x7, x8, x9, x10, x11, x12, x13, x14, x15] M5 _
    repeat (walk_at "s")
    refine o2_ninD2 BY (Dg.k (.inr n) (.inl (l5 _ _ hF4))) ?_
    have e : (!(lookW (lettK (fun _ => 0) lt ((ordF l).filter fun n => !isSt (prF l) (ordF l) n)) (.inr n)).isSome) = isSt (prF l) (ordF l) n := by
      cases hst : isSt (prF l) (ordF l) n with
      | true => rw [lett_none (fun z => by have := (List.mem_filter.mp z).2; rw [hst] at this; cases this)]; rfl
      | false => rw [lett_get (List.mem_filter.mpr ⟨hn, by rw [hst]; rfl⟩)]; rfl
    rw [e]
    refine ⟨_, rfl, rfl, LeM.refl, fun _ Y' BY' => ?_⟩
    show WE Y' _ [some (.ref d), some (.int t), some (.ref L), some (.ref F), some (.ref S), some (.str n), x6, x7, x8, x9, x10, x11, x12, x13, x14, x15] M5 _
    repeat (walk_at "s")
    exact ⟨rfl, LeM.refl⟩
  intro Ug nUg M5 l5
  have hUg : M5 Ug = some (.lst (((ordF l).filter (isSt (prF l) (ordF l))).map .str)) := l5 _ _ updM_same
  have l45 := (LeM.new nUg).trans l5
  have UF : Ug ≠ F := fun z => by subst z; rw [hF4] at nUg; cases nUg
  replace hF4 := l45 _ _ hF4
  replace l4 := l4.trans l45
  clear l5 l45 nUg hL4
  show WSs X _ [some (.ref d), some (.int t), some (.ref L), some (.ref F), some (.ref S), x5, x6, some (.ref Ug), x8, x9, x10, x11, x12, x13, x14, x15] M5 _
  repeat (walk_at "s")
  refine we_dnewN fun Ro M6 nR l6 hR => ?_
  have URo : Ug ≠ Ro := fun z => by subst z; rw [hUg] at nR; cases nR
  have FRo : F ≠ Ro := fun z => by subst z; rw [hF4] at nR; cases nR
  have nRM : M Ro = none := l4.none nR
  replace hF4 := l6 _ _ hF4
  replace hUg := l6 _ _ hUg
  replace l4 := l4.trans l6
  clear l6 nR
  have sn := stand_all (prF l) on
  have so0 := stand_ok (prF l) on (ordF l).length (Nat.le_refl _)
  rw [List.take_length] at so0
  have lts : ∀ n, isSt (prF l) (ordF l) n = true → lt n = (oneF (standF (prF l) (ordF l)) (prF l n) t n (boxesF (standF (prF l) (ordF l)) (prF l) t (((ordF l).filter (isSt (prF l) (ordF l))).takeWhile fun m => decide (m ≠ n)))).1 := fun n h => by
    rw [← hlt]; unfold ltOf; rw [h]; rfl
  have ltu : ∀ n, isSt (prF l) (ordF l) n = false → isBar (lt n) = false := fun n h => by
    rw [← hlt]; unfold ltOf; rw [h]; rfl
  rw [← sn] at lts
  generalize standF (prF l) (ordF l) = st at sn so0 lts
  have nsn : (st.map (·.1)).Nodup := so0.d
  have nmok : ∀ n ∈ ordF l, Nme n := fun n hn => by
    obtain ⟨p, hp, e⟩ := List.mem_map.mp (ord_mem.mp hn)
    rw [← e]; exact ok.nm p hp
  have stl : st.length ≤ 20 := by
    have h1 := congrArg List.length sn
    rw [List.length_map] at h1
    rw [h1]
    exact Nat.le_trans (List.length_filter_le _ _) oln
  have hord : ordL (prF l) (ordF l) = ((ordF l).filter fun n => !isSt (prF l) (ordF l) n) ++ st.map (·.1) := by rw [sn]; rfl
  rw [hord] at q
  have hU : ∀ n ∈ (ordF l).filter fun n => !isSt (prF l) (ordF l) n, isSt (prF l) (ordF l) n = false := fun n hn => by
    have := (List.mem_filter.mp hn).2
    rwa [Bool.not_eq_true'] at this
  have lU : ((ordF l).filter fun n => !isSt (prF l) (ordF l) n).length ≤ 20 := Nat.le_trans (List.length_filter_le _ _) oln
  generalize (ordF l).filter (fun n => !isSt (prF l) (ordF l) n) = U at q hF4 hU lU
  have hbu : ∀ i n, (st.map (·.1))[i]? = some n → n ∉ U ++ (st.map (·.1)).take i := fun i n h z => by
    rcases List.mem_append.mp z with z | z
    · have h1 : n ∈ st.map (·.1) := List.mem_of_getElem? h
      rw [sn] at h1
      have h2 := (List.mem_filter.mp h1).2
      rw [hU n z] at h2; cases h2
    · exact not_in_take nsn h z
  rw [← sn] at hUg
  have Unm : ∀ z ∈ st.map (·.1), z ∈ ordF l := fun z hz => by
    obtain ⟨y, hy, e⟩ := List.mem_map.mp hz
    exact e ▸ so0.m y hy
  refine wss_cut (fun σ M' => ∃ ps, ∃ (x5 x6 x9 x10 x11 x12 x13 x14 x15 : Option VV), σ = [some (.ref d), some (.int t), some (.ref L), some (.ref F), some (.ref S), x5, x6, some (.ref Ug), some (.ref Ro), x9, x10, x11, x12, x13, x14, x15] ∧ LeM M M' ∧ M' F = some (.dK (lettK ps lt (U ++ st.map (·.1)))) ∧ Psk M M' ps lt (U ++ st.map (·.1))) ?_ ?_
  · refine ws_forLst B ?_
    repeat (walk_at "s")
    refine ⟨_, .ref hUg, fun i σ M' => ∃ ps, ∃ (x5 x6 x9 x10 x11 x12 x13 x14 x15 : Option VV), σ = [some (.ref d), some (.int t), some (.ref L), some (.ref F), some (.ref S), x5, x6, some (.ref Ug), some (.ref Ro), x9, x10, x11, x12, x13, x14, x15] ∧ LeM M M' ∧ M' Ug = some (.lst ((st.map (·.1)).map .str)) ∧ M' Ro = some (.dK (dS vbx (boxesF st (prF l) t ((st.map (·.1)).take i)))) ∧ M' F = some (.dK (lettK ps lt (U ++ (st.map (·.1)).take i))) ∧ Psk M M' ps lt (U ++ (st.map (·.1)).take i),
      ⟨fun _ => 0, _, _, _, _, _, _, _, _, _, rfl, l4, hUg, hR, by rw [List.take_zero, List.append_nil]; exact hF4, ?_⟩, ?_, ?_, ?_⟩
    · rw [List.take_zero, List.append_nil]
      exact ⟨(fun n hn bs e => by have := ltu n (hU n hn); rw [e] at this; cases this), (fun n hn m hm e1 => by have := ltu n (hU n hn); rw [e1] at this; cases this)⟩
    · rintro i σ M' _ ⟨ps, x5, x6, x9, x10, x11, x12, x13, x14, x15, rfl, _, h, _⟩
      exact .ref h
    · rintro i u σ M7 hi hu5 ⟨ps, x5, x6, x9, x10, x11, x12, x13, x14, x15, rfl, l7, hU7, hR7, hF7, pk⟩
      rw [List.length_map] at hi
      have hn := some_of hi
      rw [List.getElem?_map, hn] at hu5
      cases hu5
      generalize (st.map (·.1))[i] = n at hn
      obtain ⟨p, hz⟩ : ∃ p, st[i]? = some (n, p) := by
        rw [List.getElem?_map] at hn
        obtain ⟨z, hz, rfl⟩ := Option.map_eq_some_iff.mp hn
        exact ⟨z.2, hz⟩
      have hmem := List.mem_of_getElem? hz
      have hp : p = prF l n := so0.v _ hmem
      have tk : (st.map (·.1)).take (i + 1) = (st.map (·.1)).take i ++ [n] := by rw [List.take_add_one, hn]; rfl
      have nin := hbu i n hn
      have nti := not_in_take nsn hn
      have isn : isSt (prF l) (ordF l) n = true := by
        have h1 : n ∈ st.map (·.1) := List.mem_of_getElem? hn
        rw [sn] at h1
        exact (List.mem_filter.mp h1).2
      have lti := lts n isn
      rw [take_before nsn hn, ← hp] at lti
      have hmo : n ∈ ordF l := so0.m _ hmem
      have nme := nmok n hmo
      have nle : n.length ≤ 100 := by
        have nme : nmB n = true := nme
        unfold nmB at nme
        simp only [Bool.and_eq_true] at nme
        have := of_decide_eq_true nme.1.2
        omega
      have il : i < st.length := (List.getElem?_eq_some_iff.mp hz).1
      have til : ((st.map (·.1)).take i).length ≤ 20 := by rw [List.length_take, List.length_map]; omega
      have bxs : boxesF st (prF l) t ((st.map (·.1)).take (i + 1)) = (oneF st p t n (boxesF st (prF l) t ((st.map (·.1)).take i))).2 := by rw [tk, boxesF_snoc, ← hp]
      have bxsub := boxesF_keys st (prF l) t ((st.map (·.1)).take i)
      have bxl5 : (boxesF st (prF l) t ((st.map (·.1)).take i)).length ≤ 20 := Nat.le_trans (boxesF_len _ _ _ _) til
      have bxpb : ∀ z ∈ boxesF st (prF l) t ((st.map (·.1)).take i), PB z.2 := boxesF_pb _ _ ok.t0 _
      generalize boxesF st (prF l) t ((st.map (·.1)).take i) = bx at lti bxs hR7 bxsub bxl5 bxpb
      have nbx : n ∉ bx.map (·.1) := fun z => nti (bxsub.subset z)
      have bxU : (bx.map (·.1)).Sublist (st.map (·.1)) := bxsub.trans (List.take_sublist _ _)
      have bl : (lettK ps lt (U ++ (st.map (·.1)).take i)).length ≤ 40 := by
        rw [List.length_map, List.length_append]
        exact Nat.add_le_add lU til
      obtain ⟨s, hs, es, _⟩ := ord_get hmo
      have es : s.1 = p := by rw [← es, hp]
      have hd7 := l7 _ _ hd
      obtain ⟨NQ, hNQ⟩ : ∃ N : Addr → Prop, ∀ q, N q ↔ (M q = none ∧ ∀ m ∈ U ++ (st.map (·.1)).take i, isBar (lt m) = true → ps m ≠ q) := ⟨_, fun _ => Iff.rfl⟩
      have mkN : ∀ (M' : Mp) (q : Addr), LeM M M' → Psk M M' ps lt (U ++ (st.map (·.1)).take i) → M' q = none → NQ q := fun M' q lq pq nq => (hNQ q).mpr ⟨lq.none nq, fun m hm eb z => by
        cases hlm : lt m with
        | barred bs =>
          have := (pq.at_ m hm bs hlm).1
          rw [z, nq] at this; cases this
        | under o => rw [hlm] at eb; cases eb
        | laid k b => rw [hlm] at eb; cases eb⟩
      walk_at "s"
      show WSs X _ [some (.ref d), some (.int t), some (.ref L), some (.ref F), some (.ref S), some (.str n), x6, some (.ref Ug), some (.ref Ro), x9, x10, x11, x12, x13, x14, x15] M7 _
      repeat (walk_at "s")
      refine ⟨by show 0 ≤ sizeLine; decide, fun q0 M8 nq l8 hq => ?_⟩
      have FB : F ≠ Ro := FRo
      show WSs X _ [some (.ref d), some (.int t), some (.ref L), some (.ref F), some (.ref S), some (.str n), x6, some (.ref Ug), some (.ref Ro), some (.ref q0), x10, x11, x12, x13, x14, x15] M8 _
      refine wss_cut (fun σ M' => ∃ q0, ∃ (x6 x10 x11 x12 x13 x14 x15 : Option VV), σ = [some (.ref d), some (.int t), some (.ref L), some (.ref F), some (.ref S), some (.str n), x6, some (.ref Ug), some (.ref Ro), some (.ref q0), x10, x11, x12, x13, x14, x15] ∧ LeM M M' ∧ M' Ug = some (.lst ((st.map (·.1)).map .str)) ∧ Psk M M' ps lt (U ++ (st.map (·.1)).take i) ∧ (CornA NQ M' F Ro q0 (lettK ps lt (U ++ (st.map (·.1)).take i)) bx (fun k => barF n (sideF p n t k) st bx) 4 ∨ ∃ k, CornB M' F Ro q0 (lettK ps lt (U ++ (st.map (·.1)).take i)) bx n (fun k => sideF p n t k) (fun k => barF n (sideF p n t k) st bx) k 4)) ?_ ?_
      · refine ws_for B (wi_tup ?_)
        repeat (walk_at "s")
        refine ⟨by show 4 ≤ sizeLine; decide, _, rfl, ?_⟩
        refine ⟨fun j σ M' => ∃ q0, ∃ (x6 x10 x11 x12 x13 x14 x15 : Option VV), σ = [some (.ref d), some (.int t), some (.ref L), some (.ref F), some (.ref S), some (.str n), x6, some (.ref Ug), some (.ref Ro), some (.ref q0), x10, x11, x12, x13, x14, x15] ∧ LeM M M' ∧ M' Ug = some (.lst ((st.map (·.1)).map .str)) ∧ Psk M M' ps lt (U ++ (st.map (·.1)).take i) ∧ (CornA NQ M' F Ro q0 (lettK ps lt (U ++ (st.map (·.1)).take i)) bx (fun k => barF n (sideF p n t k) st bx) j ∨ ∃ k, CornB M' F Ro q0 (lettK ps lt (U ++ (st.map (·.1)).take i)) bx n (fun k => sideF p n t k) (fun k => barF n (sideF p n t k) st bx) k j),
          ⟨q0, _, _, _, _, _, _, _, rfl, l7.trans l8, l8 _ _ hU7, pk.le l8, .inl ⟨fun k hk => by omega, l8 _ _ hR7, l8 _ _ hF7, hq, mkN _ _ l7 pk nq⟩⟩, fun _ _ _ _ _ => trivial, ?_, ?_⟩
        rotate_left
        · rintro σ M9 ⟨q0, x6, x10, x11, x12, x13, x14, x15, rfl, h⟩
          exact ⟨q0, _, _, _, _, _, _, _, rfl, h⟩
        rintro j u σ M9 hj hu9 ⟨q0, x6, x10, x11, x12, x13, x14, x15, rfl, l9, hU9, pk9, cas⟩
        have hj4 : j < 4 := hj
        have eu : u = .str (sideS j) := by
          match j, hj4, hu9 with
          | 0, _, h => cases h; rfl
          | 1, _, h => cases h; rfl
          | 2, _, h => cases h; rfl
          | 3, _, h => cases h; rfl
        subst eu
        walk_at "s"
        show WSs X _ [some (.ref d), some (.int t), some (.ref L), some (.ref F), some (.ref S), some (.str n), x6, some (.ref Ug), some (.ref Ro), some (.ref q0), some (.str (sideS j)), x11, x12, x13, x14, x15] M9 _
        repeat (walk_at "s")
        refine oi_dS B (.inl (l9 _ _ hd)) hs ?_
        repeat (walk_at "s")
        refine ⟨s.1, n, t, j, rfl, hj4, nle, ok.t0, ok.t1, ?_⟩
        rw [es]
        repeat (walk_at "s")
        refine ⟨by show 0 ≤ sizeLine; decide, fun y0 M10 ny l10 hy => ?_⟩
        have bpb := sideF_pb (p := p) (n := n) (k := j) ok.t0
        have nyM : M y0 = none := l9.none ny
        have hd10 := l10 _ _ (l9 _ _ hd)
        have hU10 := l10 _ _ hU9
        have Uy : Ug ≠ y0 := fun z => by subst z; rw [hU9] at ny; cases ny
        show WSs X _ [some (.ref d), some (.int t), some (.ref L), some (.ref F), some (.ref S), some (.str n), x6, some (.ref Ug), some (.ref Ro), some (.ref q0), some (.str (sideS j)), some (vbx (sideF p n t j)), some (.ref y0), x13, x14, x15] M10 _
        refine wss_cut (fun σ M' => ∃ (x6 x13 x14 x15 : Option VV), σ = [some (.ref d), some (.int t), some (.ref L), some (.ref F), some (.ref S), some (.str n), x6, some (.ref Ug), some (.ref Ro), some (.ref q0), some (.str (sideS j)), some (vbx (sideF p n t j)), some (.ref y0), x13, x14, x15] ∧ M' = updM M10 y0 (.lst ((byS (prF l) (st.map (·.1)) n (sideF p n t j)).map vb))) ?_ ?_
        · refine ws_forLst B ?_
          repeat (walk_at "s")
          refine ⟨_, .ref hU10, fun m σ M' => ∃ (x6 x13 x14 x15 : Option VV), σ = [some (.ref d), some (.int t), some (.ref L), some (.ref F), some (.ref S), some (.str n), x6, some (.ref Ug), some (.ref Ro), some (.ref q0), some (.str (sideS j)), some (vbx (sideF p n t j)), some (.ref y0), x13, x14, x15] ∧ M' = updM M10 y0 (.lst ((byS (prF l) ((st.map (·.1)).take m) n (sideF p n t j)).map vb)), ⟨_, _, _, _, rfl, (updM_id hy).symm⟩, ?_, ?_, ?_⟩
          · rintro m σ M' _ ⟨x6, x13, x14, x15, rfl, rfl⟩
            exact .ref (by rw [updM_ne Uy]; exact hU10)
          · rintro m u σ M' hm hu' ⟨x6, x13, x14, x15, rfl, rfl⟩
            rw [List.length_map] at hm
            have ho := some_of hm
            rw [List.getElem?_map, ho] at hu'
            cases hu'
            have homem := List.mem_of_getElem? ho
            generalize (st.map (·.1))[m] = o at ho homem
            have tkm : (st.map (·.1)).take (m + 1) = (st.map (·.1)).take m ++ [o] := by rw [List.take_add_one, ho]; rfl
            obtain ⟨so, hso, eso, _⟩ := ord_get (Unm o homem)
            have dy : d ≠ y0 := fun z => by rw [z, nyM] at hd; cases hd
            have hit : hitS (prF l) n (sideF p n t j) o = (decide (o ≠ n) && ((decide ((sideF p n t j).1 ≤ so.1.1) && decide (so.1.1 ≤ (sideF p n t j).2.2.1)) && (decide ((sideF p n t j).2.1 ≤ so.1.2) && decide (so.1.2 ≤ (sideF p n t j).2.2.2)))) := by
              unfold hitS; rw [eso]; rfl
            have bad : hitS (prF l) n (sideF p n t j) o = false → byS (prF l) ((st.map (·.1)).take (m + 1)) n (sideF p n t j) = byS (prF l) ((st.map (·.1)).take m) n (sideF p n t j) := fun h => by
              unfold byS; rw [tkm, List.filter_append]; simp [h]
            have good : hitS (prF l) n (sideF p n t j) o = true → byS (prF l) ((st.map (·.1)).take (m + 1)) n (sideF p n t j) = byS (prF l) ((st.map (·.1)).take m) n (sideF p n t j) ++ [(Str.ofString "site", o)] := fun h => by
              unfold byS; rw [tkm, List.filter_append]; simp [h]
            have blen : (byS (prF l) ((st.map (·.1)).take m) n (sideF p n t j)).length ≤ 20 := by
              unfold byS
              rw [List.length_map]
              exact Nat.le_trans (List.length_filter_le _ _) (by rw [List.length_take, List.length_map]; omega)
            generalize sideF p n t j = b at hit bad good blen bpb
            repeat (walk_at "s")
            refine oi_dS B (.inl (by rw [updM_ne dy]; exact hd10)) hso ?_
            repeat (walk_at "s")
            refine wg_asTup ?_
            repeat (walk_at "s")
            refine ite_ndec (fun hne => ?_) (fun heq => ?_)
            · repeat (walk_at "s")
              rw [decide_eq_true hne, Bool.true_and] at hit
              refine ite_dec (fun h1 => ?_) (fun h1 => ?_)
              · repeat (walk_at "s")
                refine ite_dec (fun h2 => ?_) (fun h2 => ?_)
                · repeat (walk_at "s")
                  refine ite_dec (fun h3 => ?_) (fun h3 => ?_)
                  · repeat (walk_at "s")
                    refine ite_dec (fun h4 => ?_) (fun h4 => ?_)
                    · repeat (walk_at "s")
                      refine ⟨y0, _, rfl, updM_same, ?_⟩
                      repeat (walk_at "s")
                      refine ⟨by show 2 ≤ sizeLine; decide, ?_⟩
                      rw [decide_eq_true h1, decide_eq_true h2, decide_eq_true h3, decide_eq_true h4] at hit
                      refine ⟨_, updM_same, by rw [List.length_map]; exact Nat.lt_of_le_of_lt blen (by decide), ?_⟩
                      repeat (walk_at "s")
                      exact ⟨_, _, _, _, rfl, by rw [updM_updM, good hit, List.map_append]; rfl⟩
                    · repeat (walk_at "s")
                      rw [decide_eq_false h4, Bool.and_false, Bool.and_false] at hit
                      exact ⟨_, _, _, _, rfl, by rw [bad hit]⟩
                  · refine iteF ?_
                    repeat (walk_at "s")
                    rw [decide_eq_false h3, Bool.false_and, Bool.and_false] at hit
                    exact ⟨_, _, _, _, rfl, by rw [bad hit]⟩
                · refine iteF ?_
                  repeat (walk_at "s")
                  rw [decide_eq_false h2, Bool.and_false, Bool.false_and] at hit
                  exact ⟨_, _, _, _, rfl, by rw [bad hit]⟩
              · refine iteF ?_
                refine wss_nil ?_
                show WSs X [] _ _ _
                refine wss_nil ?_
                rw [decide_eq_false h1, Bool.false_and, Bool.false_and] at hit
                exact ⟨_, _, _, _, rfl, by rw [bad hit]⟩
            · refine iteF ?_
              repeat (walk_at "s")
              rw [decide_eq_false (fun c => c heq), Bool.false_and] at hit
              exact ⟨_, _, _, _, rfl, by rw [bad hit]⟩
          · rintro σ M' ⟨x6, x13, x14, x15, rfl, rfl⟩
            rw [List.length_map, List.take_length]
            exact ⟨_, _, _, _, rfl, rfl⟩
        rintro σ M11 ⟨x6, x13, x14, x15, rfl, e11⟩
        have l11 : LeM M9 M11 := by rw [e11]; exact l10.put ny
        have hy11 : M11 y0 = some (.lst ((byS (prF l) (st.map (·.1)) n (sideF p n t j)).map vb)) := by rw [e11]; exact updM_same
        clear e11 hy l10 hU10 hd10
        obtain ⟨rb, fv, ys, hRb, hFv, hys, ylen, rbpb, rblen, fvlen, cas2⟩ : ∃ rb fv ys, M9 Ro = some (.dK (dS vbx rb)) ∧ M9 F = some (.dK fv) ∧ M9 q0 = some (.lst ys) ∧ ys.length ≤ j ∧ (∀ z ∈ rb, PB z.2) ∧ rb.length ≤ 21 ∧ fv.length ≤ 41 ∧ ((rb = bx ∧ fv = lettK ps lt (U ++ (st.map (·.1)).take i) ∧ ys = (List.range j).map (fun k => vbar (barF n (sideF p n t k) st bx)) ∧ (∀ k, k < j → barF n (sideF p n t k) st bx ≠ none) ∧ NQ q0) ∨
            ∃ k, k < j ∧ barF n (sideF p n t k) st bx = none ∧ (∀ m, m < k → barF n (sideF p n t m) st bx ≠ none) ∧ rb = bx ++ [(n, sideF p n t k)] ∧ fv = lettK ps lt (U ++ (st.map (·.1)).take i) ++ [((Sum.inr n : Key), .tup [.str "laid", .str (sideS k), vbx (sideF p n t k)])]) := by
          rcases cas with ca | ⟨k, cb⟩
          · exact ⟨_, _, _, ca.r, ca.f, ca.b, by rw [List.length_map, List.length_range]; exact Nat.le_refl _, bxpb, by omega, by omega, .inl ⟨rfl, rfl, rfl, ca.no, ca.nq⟩⟩
          · obtain ⟨ys, hys, yl⟩ := cb.b
            refine ⟨_, _, ys, cb.r, cb.f, hys, yl, fun z hz => ?_, by rw [List.length_append]; show _ + 1 ≤ _; omega, by rw [List.length_append]; show _ + 1 ≤ _; omega, .inr ⟨k, cb.hk, cb.hit, cb.no, rfl, rfl⟩⟩
            rcases List.mem_append.mp hz with hz | hz
            · exact bxpb z hz
            · simp at hz; subst hz; exact sideF_pb ok.t0
        clear cas
        have hR11 := l11 _ _ hRb
        have hF11 := l11 _ _ hFv
        have hq11 := l11 _ _ hys
        have hU11 := l11 _ _ hU9
        repeat (walk_at "s")
        refine we_lc B [("_law_other", 13)] (by decide +kernel) (by decide) (pgI1 B (by walk_at "at") (by rfl)) ctg_name ?_
        refine wi_lst ?_
        repeat (walk_at "s")
        refine ⟨_, .ref hU11, ?_⟩
        refine compI_filter (st.map (·.1)) (itm_lst (v := VV.str) (.ref hU11) (by rw [List.length_map]; exact Nat.le_trans stl (by decide))) (hitR rb (sideF p n t j)) (fun o => vb (Str.ofString "name", o)) ?_ ?_
        · rintro o u M12 ho rfl l12
          refine ⟨_, rfl, fun Y BY => ?_⟩
          show WT Y _ [some (.ref d), some (.int t), some (.ref L), some (.ref F), some (.ref S), some (.str n), x6, some (.ref Ug), some (.ref Ro), some (.ref q0), some (.str (sideS j)), some (vbx (sideF p n t j)), some (.ref y0), some (.str o), x14, x15] M12 _
          repeat (walk_at "s")
          refine o2_inS BY (f := vbx) (.inl (l12 _ _ hR11)) ?_
          refine ⟨_, rfl, ?_⟩
          cases hg : getS rb o with
          | none =>
            refine iteF ?_
            exact ⟨by unfold hitR; rw [hg], LeM.refl, fun z => by cases z⟩
          | some r =>
            refine iteT ?_
            repeat (walk_at "s")
            refine oi_dS BY (.inl (l12 _ _ hR11)) hg ?_
            repeat (walk_at "s")
            refine ⟨sideF p n t j, r, rfl, bpb, rbpb _ (getS_mem hg), ?_⟩
            refine ⟨_, .bl _, by unfold hitR; rw [hg], LeM.refl, fun _ Y' BY' => ?_⟩
            show WE Y' _ [some (.ref d), some (.int t), some (.ref L), some (.ref F), some (.ref S), some (.str n), x6, some (.ref Ug), some (.ref Ro), some (.ref q0), some (.str (sideS j)), some (vbx (sideF p n t j)), some (.ref y0), some (.str o), x14, x15] M12 _
            repeat (walk_at "s")
            refine ⟨by show 2 ≤ sizeLine; decide, ?_⟩
            exact ⟨rfl, LeM.refl⟩
        intro D nD M12 l12
        have hD : M12 D = some (.lst ((byR (st.map (·.1)) (sideF p n t j) rb).map vb)) := by
          rw [l12 _ _ updM_same]
          unfold byR
          rw [List.map_map]; rfl
        have l1112 := (LeM.new nD).trans l12
        have hy12 := l1112 _ _ hy11
        have bl1 : (byS (prF l) (st.map (·.1)) n (sideF p n t j)).length ≤ 20 := by
          unfold byS; rw [List.length_map]
          exact Nat.le_trans (List.length_filter_le _ _) (by rw [List.length_map]; exact stl)
        have bl2 : (byR (st.map (·.1)) (sideF p n t j) rb).length ≤ 20 := by
          unfold byR; rw [List.length_map]
          exact Nat.le_trans (List.length_filter_le _ _) (by rw [List.length_map]; exact stl)
        refine o2_cat hy12 hD (by rw [List.length_map, List.length_map]; exact Nat.le_trans (Nat.add_le_add bl1 bl2) (by decide)) fun y1 ny1 => ?_
        rw [← List.map_append]
        have hhead : rb = bx → (byS (prF l) (st.map (·.1)) n (sideF p n t j) ++ byR (st.map (·.1)) (sideF p n t j) rb).head? = barF n (sideF p n t j) st bx := fun e => by rw [e]; exact by_head rfl so0.v nsn bxU
        have l13 : LeM M9 (updM M12 y1 (.lst ((byS (prF l) (st.map (·.1)) n (sideF p n t j) ++ byR (st.map (·.1)) (sideF p n t j) rb).map vb))) := l11.trans (l1112.trans (LeM.new ny1))
        have hby : updM M12 y1 (.lst ((byS (prF l) (st.map (·.1)) n (sideF p n t j) ++ byR (st.map (·.1)) (sideF p n t j) rb).map vb)) y1 = _ := updM_same
        generalize updM M12 y1 (.lst ((byS (prF l) (st.map (·.1)) n (sideF p n t j) ++ byR (st.map (·.1)) (sideF p n t j) rb).map vb)) = M13 at l13 hby
        generalize byS (prF l) (st.map (·.1)) n (sideF p n t j) ++ byR (st.map (·.1)) (sideF p n t j) rb = bys at hhead hby
        have l013 := l9.trans l13
        have hU13 := l13 _ _ hU9
        have hR13 := l13 _ _ hRb
        have hF13 := l13 _ _ hFv
        have hq13 := l13 _ _ hys
        have pk13 := pk9.le l13
        clear l11 hR11 hF11 hq11 hU11 hy11 l12 l1112 hy12 hD ny1 nD hRb hFv hys l13 pk9 hU9 l9
        show WSs X _ [some (.ref d), some (.int t), some (.ref L), some (.ref F), some (.ref S), some (.str n), x6, some (.ref Ug), some (.ref Ro), some (.ref q0), some (.str (sideS j)), some (vbx (sideF p n t j)), some (.ref y1), x13, x14, x15] M13 _
        refine wss_cut (fun σ M' => ∃ (x6 x13 x14 x15 : Option VV), σ = [some (.ref d), some (.int t), some (.ref L), some (.ref F), some (.ref S), some (.str n), x6, some (.ref Ug), some (.ref Ro), some (.ref q0), some (.str (sideS j)), some (vbx (sideF p n t j)), some (.ref y1), x13, x14, x15] ∧ LeM M M' ∧ M' Ug = some (.lst ((st.map (·.1)).map .str)) ∧ M' y1 = some (.lst (bys.map vb)) ∧ M' q0 = some (.lst ys) ∧ Psk M M' ps lt (U ++ (st.map (·.1)).take i) ∧
          ((bys.head? ≠ none ∧ bys.head? = barF n (sideF p n t j) st bx ∧ M' Ro = some (.dK (dS vbx bx)) ∧ M' F = some (.dK (lettK ps lt (U ++ (st.map (·.1)).take i))) ∧ ys = (List.range j).map (fun k => vbar (barF n (sideF p n t k) st bx)) ∧ (∀ k, k < j → barF n (sideF p n t k) st bx ≠ none) ∧ NQ q0) ∨
            ∃ k, k < j + 1 ∧ barF n (sideF p n t k) st bx = none ∧ (∀ m, m < k → barF n (sideF p n t m) st bx ≠ none) ∧ M' Ro = some (.dK (dS vbx (bx ++ [(n, sideF p n t k)]))) ∧ M' F = some (.dK (lettK ps lt (U ++ (st.map (·.1)).take i) ++ [((Sum.inr n : Key), .tup [.str "laid", .str (sideS k), vbx (sideF p n t k)])])))) ?_ ?_
        · repeat (walk_at "s")
          refine ⟨by show 0 ≤ sizeLine; decide, fun Z M14 nZ l14 hZ => ?_⟩
          have hR14 := l14 _ _ hR13
          have hF14 := l14 _ _ hF13
          have hU14 := l14 _ _ hU13
          have hq14 := l14 _ _ hq13
          have hy14 := l14 _ _ hby
          have l014 := l013.trans l14
          have pk14 := pk13.le l14
          refine o2_eqT (α := List Bar) (x := bys) (y := []) (Nat.lt_of_le_of_lt (Nat.add_le_add_left (by decide : _ ≤ 64) _) (show X.A.units + 64 < cLine by omega)) (dw_lst (v := vb) (fun q => .tup (.cons (.str _) (.cons (.str _) .nil))) (.ref hy14)) (.lst (.ref hZ) .nil) ?_
          refine ⟨_, rfl, ite_dec (fun h0 => ?_) (fun h0 => ?_)⟩
          · repeat (walk_at "s")
            refine o2_ninS B (f := vbx) (.inl hR14) ?_
            refine ⟨_, rfl, ?_⟩
            rcases cas2 with ⟨c1, c2, c3, c4, c5⟩ | ⟨k, c1, c2, c3, c4, c5⟩
            · subst c1
              subst c2
              have g0 : getS rb n = none := by
                cases e : getS rb n with
                | none => rfl
                | some b => exact absurd (List.mem_map.mpr ⟨_, getS_mem e, rfl⟩) nbx
              rw [g0]
              refine iteT ?_
              repeat (walk_at "s")
              refine wg_sub ?_
              repeat (walk_at "s")
              refine oset_dK B (.inr n) hR14 (by rw [List.length_map]; exact Nat.lt_of_le_of_lt rblen (by decide)) ?_
              rw [putW_new (box_none nbx)]
              have eB : dS vbx rb ++ [((Sum.inr n : Key), vbx (sideF p n t j))] = dS vbx (rb ++ [(n, sideF p n t j)]) := by simp only [dS, List.map_append, List.map_cons, List.map_nil]
              rw [eB]
              have y1R : y1 ≠ Ro := fun z => by rw [z, hR14] at hy14; cases hy14
              have q0R : q0 ≠ Ro := fun z => by rw [z, hR14] at hq14; cases hq14
              have y1F : y1 ≠ F := fun z => by rw [z, hF14] at hy14; cases hy14
              have q0F : q0 ≠ F := fun z => by rw [z, hF14] at hq14; cases hq14
              repeat (walk_at "s")
              refine ⟨by show 3 ≤ sizeLine; decide, ?_⟩
              refine wg_sub ?_
              repeat (walk_at "s")
              refine oset_dK B (.inr n) (by rw [updM_ne FB]; exact hF14) (Nat.lt_of_le_of_lt bl (by decide)) ?_
              rw [putW_new (lett_none nin)]
              repeat (walk_at "s")
              have pk15 := (pk14.putD (o := .dK (dS vbx (rb ++ [(n, sideF p n t j)]))) hR14).putD (p := F) (o := .dK (lettK ps lt (U ++ (st.map (·.1)).take i) ++ [((Sum.inr n : Key), .tup [.str "laid", .str (sideS j), vbx (sideF p n t j)])])) (by rw [updM_ne FB]; exact hF14)
              refine ⟨_, _, _, _, rfl, (l014.put nRM).put nFM, by rw [updM_ne UF, updM_ne URo]; exact hU14, by rw [updM_ne y1F, updM_ne y1R]; exact hy14, by rw [updM_ne q0F, updM_ne q0R]; exact hq14, pk15, .inr ⟨j, by omega, ?_, c4, by rw [updM_ne FB.symm, updM_same], updM_same⟩⟩
              rw [← hhead rfl, h0]; rfl
            · subst c4
              subst c5
              rw [getS_snoc nbx]
              refine iteF ?_
              repeat (walk_at "s")
              exact ⟨_, _, _, _, rfl, l014, hU14, hy14, hq14, pk14, .inr ⟨k, by omega, c2, c3, hR14, hF14⟩⟩
          · refine iteF ?_
            repeat (walk_at "s")
            have hne : bys.head? ≠ none := fun z => h0 (by_nil.mpr z)
            rcases cas2 with ⟨c1, c2, c3, c4, c5⟩ | ⟨k, c1, c2, c3, c4, c5⟩
            · subst c1
              subst c2
              exact ⟨_, _, _, _, rfl, l014, hU14, hy14, hq14, pk14, .inl ⟨hne, hhead rfl, hR14, hF14, c3, c4, c5⟩⟩
            · subst c4
              subst c5
              exact ⟨_, _, _, _, rfl, l014, hU14, hy14, hq14, pk14, .inr ⟨k, by omega, c2, c3, hR14, hF14⟩⟩
        rintro σ M15 ⟨x6, x13, x14, x15, rfl, l15, hU15, hby15, hq15, pk15, cas3⟩
        repeat (walk_at "s")
        refine ⟨_, rfl, _, .ref hby15, fun z nz => ?_⟩
        rw [show cutW (bys.map vb) none (some 1) = (bys.map vb).take 1 from cut_to (b := 1) rfl]
        have zq : q0 ≠ z := fun e => by rw [← e, hq15] at nz; cases nz
        refine o2_cat (by rw [updM_ne zq]; exact hq15) updM_same (Nat.le_trans (Nat.add_le_add ylen (by rw [List.length_take]; exact Nat.min_le_left 1 _)) (Nat.le_trans (show j + 1 ≤ 5 by omega) (by decide))) fun q2 nq2 => ?_
        have l16 := (LeM.new (o := .lst ((bys.map vb).take 1)) nz).trans (LeM.new (o := .lst (ys ++ (bys.map vb).take 1)) nq2)
        have hq16 : updM (updM M15 z (.lst ((bys.map vb).take 1))) q2 (.lst (ys ++ (bys.map vb).take 1)) q2 = _ := updM_same
        have nq7 : NQ q2 := mkN M15 q2 l15 pk15 ((LeM.new nz).none nq2)
        generalize updM (updM M15 z (.lst ((bys.map vb).take 1))) q2 (.lst (ys ++ (bys.map vb).take 1)) = M16 at l16 hq16
        repeat (walk_at "s")
        refine ⟨q2, _, _, _, _, _, _, _, rfl, l15.trans l16, l16 _ _ hU15, pk15.le l16, ?_⟩
        rcases cas3 with ⟨c0, c1, c2, c3, c4, c5, c6⟩ | ⟨k, c1, c2, c3, c4, c5⟩
        · refine .inl ⟨fun k hk => ?_, l16 _ _ c2, l16 _ _ c3, ?_, nq7⟩
          · rcases Nat.lt_succ_iff_lt_or_eq.mp hk with h | h
            · exact c5 k h
            · subst h; rw [← c1]; exact c0
          · rw [hq16, c4, List.range_succ, List.map_append]
            obtain ⟨b, hb⟩ := Option.ne_none_iff_exists'.mp c0
            rw [← List.map_take, by_one hb]
            rw [hb] at c1
            simp only [List.map_cons, List.map_nil, ← c1]
            rfl
        · refine .inr ⟨k, c1, c2, c3, l16 _ _ c4, l16 _ _ c5, _, hq16, ?_⟩
          rw [List.length_append]
          exact Nat.add_le_add ylen (by rw [List.length_take]; exact Nat.min_le_left 1 _)
      rintro σ M9 ⟨q1, x6, x10, x11, x12, x13, x14, x15, rfl, l9, hU9, pk9, cas⟩
      repeat (walk_at "s")
      rcases cas with ca | ⟨k, cb⟩
      · refine o2_ninS B (f := vbx) (.inl ca.r) ?_
        have g0 : getS bx n = none := by
          cases e : getS bx n with
          | none => rfl
          | some b => exact absurd (List.mem_map.mpr ⟨_, getS_mem e, rfl⟩) nbx
        rw [g0]
        refine ⟨_, rfl, iteT ?_⟩
        have e1 : oneF st p t n bx = (.barred (barsF st p t n bx), bx) := by unfold oneF; rw [bars_miss ca.no]
        rw [e1] at lti bxs
        have lti : lt n = .barred (barsF st p t n bx) := lti
        repeat (walk_at "s")
        refine ⟨by show 2 ≤ sizeLine; decide, ?_⟩
        refine wg_sub ?_
        repeat (walk_at "s")
        refine oset_dK B (.inr n) ca.f (Nat.lt_of_le_of_lt bl (by decide)) ?_
        rw [putW_new (lett_none nin)]
        have qF : q1 ≠ F := fun z => by have := ca.b; rw [z, ca.f] at this; cases this
        obtain ⟨nq1, fr⟩ := (hNQ q1).mp ca.nq
        have hD : M9 q1 = some (.lst ((barsF st p t n bx).map vbar)) := ca.b
        repeat (walk_at "s")
        refine ⟨fun m => if m = n then q1 else ps m, _, _, _, _, _, _, _, _, _, rfl, l9.put nFM, by rw [updM_ne UF]; exact hU9, by rw [updM_ne FB.symm, ca.r, bxs], ?_, ?_⟩
        · have c : lettK ps lt (U ++ (st.map (·.1)).take i) = lettK (fun m => if m = n then q1 else ps m) lt (U ++ (st.map (·.1)).take i) := lett_congr fun m hm => by
            show ps m = if m = n then q1 else ps m
            exact (if_neg (fun z : m = n => nin (z ▸ hm))).symm
          rw [updM_same, tk, ← List.append_assoc, lett_snoc (v := .tup [.str "barred", .ref q1]) (by rw [lti, if_pos rfl]; rfl), c]
        · rw [tk, ← List.append_assoc]
          exact (pk9.putD ca.f).bar nin lti (by rw [updM_ne qF]; exact hD) nq1 fr
      · have k4 := cb.hk
        refine o2_ninS B (f := vbx) (.inl cb.r) ?_
        rw [getS_snoc nbx]
        refine ⟨_, rfl, iteF ?_⟩
        have e1 : oneF st p t n bx = (.laid k (sideF p n t k), bx ++ [(n, sideF p n t k)]) := by unfold oneF; rw [bars_hit k4 cb.hit cb.no]
        rw [e1] at lti bxs
        have lti : lt n = .laid k (sideF p n t k) := lti
        repeat (walk_at "s")
        refine ⟨ps, _, _, _, _, _, _, _, _, _, rfl, l9, hU9, by rw [cb.r, bxs], ?_, ?_⟩
        · rw [cb.f, tk, ← List.append_assoc, lett_snoc (v := .tup [.str "laid", .str (sideS k), vbx (sideF p n t k)]) (congrArg (ltv (ps n)) lti)]
        · rw [tk, ← List.append_assoc]
          exact pk9.no (by rw [lti]; rfl)
    · rintro σ M7 ⟨ps, x5, x6, x9, x10, x11, x12, x13, x14, x15, rfl, l7, hU7, hR7, hF7, pk⟩
      rw [List.length_map, List.take_length] at hF7 pk
      exact ⟨ps, _, _, _, _, _, _, _, _, _, rfl, l7, hF7, pk⟩
  rintro σ M7 ⟨ps, x5, x6, x9, x10, x11, x12, x13, x14, x15, rfl, l7, hF7, pk⟩
  repeat (walk_at "s")
  exact ⟨M7, LeM.refl, q F ps M7 nFM l7 hF7 pk⟩
end G3

set_option Elab.async false
set_option linter.all false
set_option maxRecDepth 100000
set_option maxHeartbeats 4000000
/-! text.split(text), text.index(text) -/
namespace G3
open PySem PySem.Spec L2 PySem.W
section
variable {X : Cx} {o e : Expr} {σ : St3} {M : Mp} {Q : VQ} {pos apos : Pos}
theorem rvs_ofStrs {K : PySem.W.Frag} {H : Hp} : ∀ ys : List Str, Rvs K H (ys.map V.str) (ys.map VV.str)
  | [] => .nil
  | y :: ys => .cons (.str y) (rvs_ofStrs ys)
theorem we_split (h : WE X o σ M fun u M1 => ∃ a, u = .str a ∧ WE X e σ M1 fun w M2 => ∃ b, w = .str b ∧ (b.length == 0) = false ∧ a.length + 2 ≤ sizeLine ∧ ∀ p M3, M2 p = none → LeM M2 M3 → M3 p = some (.lst ((Txt.split a b).map VV.str)) → Q (.ref p) M3)
    (hs : starEach [e] X.env = [(false, eval e X.env)] := by rfl) (hbase : attributeBase o "split" X.env (eval o X.env) = eval o X.env := by rfl) (hline : (apos.endLine == pos.line) = true := by rfl) : WE X (.Call (.Attribute o "split" apos) [e] [] pos) σ M Q := fun σ' H s m =>
  wE.of (pe_splitAny wE.pe wE.pe hs hbase hline) (h.run s m fun v H1 u M1 t1 m1 r1 s1 ⟨a, eu, q1⟩ => by
    subst eu; cases r1
    refine ⟨⟨a, rfl⟩, q1.run s1 m1 fun v2 H2 w M2 t2 m2 r2 s2 ⟨b, ew, hb, hz, q⟩ => ?_⟩
    subst ew; cases r2
    refine .inl ⟨a, b, rfl, rfl, hb, hz, fun p hp => ?_⟩
    have np := m2.no hp
    have m3 := m2.putL (vs := (Txt.split a b).map V.str) (TM.fresh hp) (.inl hp) (rvs_ofStrs _)
    exact ⟨.ref p, _, (t1.trans t2).trans (TM.fresh hp), m3, .ref p, q p _ np (LeM.new np) updM_same⟩)
theorem we_sindex (h : WE X o σ M fun u M1 => ∃ a, u = .str a ∧ WE X e σ M1 fun w M2 => ∃ b i rest, w = .str b ∧ Builtin.Str.occurrences a b 0 a.length 1 = i :: rest ∧ Q (.int (i : Nat)) M2)
    (hs : starEach [e] X.env = [(false, eval e X.env)] := by rfl) (hbase : attributeBase o "index" X.env (eval o X.env) = eval o X.env := by rfl) (hline : (apos.endLine == pos.line) = true := by rfl) : WE X (.Call (.Attribute o "index" apos) [e] [] pos) σ M Q := fun σ' H s m =>
  wE.of (pe_m1 F.slot_str_index F.type_str_index mt_sindex wE.pe wE.pe hs hbase hline) (h.run s m fun v H1 u M1 t1 m1 r1 s1 ⟨a, eu, q1⟩ => by
    subst eu; cases r1
    refine ⟨⟨a, rfl⟩, q1.run s1 m1 fun v2 H2 w M2 t2 m2 r2 s2 ⟨b, i, rest, ew, ho, q⟩ => ?_⟩
    subst ew; cases r2
    exact ⟨a, b, i, rest, rfl, rfl, ho, .int _, M2, t1.trans t2, m2, .int _, q⟩)
end
end G3

set_option Elab.async false
set_option linter.all false
set_option maxRecDepth 100000
set_option maxHeartbeats 4000000
/-! names and sites of the plain walk -/
namespace G3
open PySem PySem.Spec L2 PySem.W
abbrev lettersS : Str := Str.ofString "abcdefghijklmnopqrstuvwxyz"
abbrev poolS : Str := Str.ofString "a ab b ba abc c mast m zz hill kilnab aa"
def okSign (c : Nat) : Bool := match Builtin.Str.occurrences lettersS ⟨#[c]⟩ 0 lettersS.length 1 with
  | i :: _ => decide (i < 26)
  | [] => false
def okWord (w : Str) : Bool := decide (1 ≤ w.cps.size) && decide (w.cps.size ≤ 6) && w.cps.toList.all okSign
theorem pool_ok : (Txt.split poolS (Str.ofString " ")).all okWord = true := by decide +kernel
theorem pool_len : (Txt.split poolS (Str.ofString " ")).length = 12 := by decide +kernel
theorem okSign_is {c : Nat} (h : okSign c = true) : ∃ i rest, Builtin.Str.occurrences lettersS ⟨#[c]⟩ 0 lettersS.length 1 = i :: rest ∧ i < 26 := by
  unfold okSign at h
  cases e : Builtin.Str.occurrences lettersS ⟨#[c]⟩ 0 lettersS.length 1 with
  | nil => rw [e] at h; cases h
  | cons i rest => rw [e] at h; exact ⟨i, rest, rfl, of_decide_eq_true h⟩
section
variable {M : Mp}
theorem itm_chars {x : Str} (hz : x.cps.size ≤ sizeLine) : Itm (itS x) M x.cps.toList (fun c y => y = .str ⟨#[c]⟩) :=
  ⟨by show x.cps.size = _; rw [Array.length_toList], fun i u hi ⟨c, e, eu⟩ => ⟨c, by rw [Array.getElem?_toList]; exact e, eu⟩, fun _ _ => trivial, by rw [Array.length_toList]; exact hz⟩
end
theorem fr_strs {α : Type} {xs : List α} {ys : List VV} (h : FR (fun (_ : α) b => b = true) (fun _ y => ∃ s : Str, y = .str s ∧ Nme s) xs ys) : ∃ l : List Str, ys = l.map .str ∧ l.length = xs.length ∧ ∀ s ∈ l, Nme s := by
  induction h with
  | nil => exact ⟨[], rfl, rfl, fun _ h => nomatch h⟩
  | skip h _ _ => cases h
  | take _ h _ ih =>
    obtain ⟨s, rfl, hs⟩ := h
    obtain ⟨l, rfl, h1, h2⟩ := ih
    refine ⟨s :: l, rfl, by rw [List.length_cons, List.length_cons, h1], fun x hx => ?_⟩
    rcases List.mem_cons.mp hx with e | hx
    · subst e; exact hs
    · exact h2 x hx
def spNames5 : Sp3 := fun ws M Q => ∃ (b : Addr), ws = [.ref b] ∧ M b = some .bag ∧ ∀ p (l : List Str) M2, M p = none → LeM M M2 → M2 p = some (.lst (l.map .str)) → l.length = 12 → (∀ x ∈ l, Nme x) → Q (.ref p) M2
def spSites5 : Sp3 := fun ws M Q => ∃ (b : Addr), ws = [.ref b] ∧ M b = some .bag ∧ ∀ (l : Sites) p M2, M p = none → LeM M M2 → M2 p = some (.dK (dS vsi l)) → (l.map (·.1)).Nodup → l.length ≤ 8 → (∀ q ∈ l, Nme q.1) → Q (.ref p) M2
end G3
namespace G3
open PySem PySem.Spec L2 PySem.W
theorem foldW_nd : ∀ {ps acc : List (Key × VV)}, ((acc ++ ps).map (·.1)).Nodup → foldW ps acc = acc ++ ps
  | [], acc, _ => by rw [List.append_nil]; rfl
  | p :: ps, acc, h => by
    have h0 : lookW acc p.1 = none := by
      unfold lookW
      rw [Option.map_eq_none_iff, List.find?_eq_none]
      intro z hz e
      rw [List.map_append, List.nodup_append] at h
      exact h.2.2 _ (List.mem_map.mpr ⟨z, hz, rfl⟩) _ (by simp) (of_decide_eq_true e)
    show foldW ps (putW acc p.1 p.2) = _
    rw [putW_new h0, foldW_nd (by rw [List.append_assoc]; exact h), List.append_assoc]
    rfl
theorem vla_tup (q : LA) : ∃ ws, vla q = .tup ws := by
  obtain ⟨a, t⟩ := q
  cases t <;> exact ⟨_, rfl⟩
def spCopyT : Sp3 := fun ws M Q => ∃ us : List VV, ws = [.tup us] ∧ Q (.tup us) M
def spCopyD : Sp3 := fun ws M Q => ∃ (d : Addr) (tl : List (Str × LA)), ws = [.ref d] ∧ M d = some (.dK (dS vla tl)) ∧ (tl.map (·.1)).Nodup ∧ tl.length ≤ 60 ∧ ∀ p M2, M p = none → LeM M M2 → M2 p = some (.dK (dS vla tl)) → Q (.ref p) M2
end G3
namespace G3
open PySem PySem.Spec L2 PySem.W
def TL4 (tl : List (Str × LA)) : Prop := ∀ p ∈ tl, ∀ bs, p.2.2 = .barred bs → bs.length = 4
theorem TL4.put {tl : List (Str × LA)} (h : TL4 tl) {n : Str} {q : LA} (hq : ∀ bs, q.2 = .barred bs → bs.length = 4) : TL4 (putS tl n q) := fun p hp bs e => by
  rcases putS_mem hp with ⟨_, e2⟩ | hp
  · rw [e2] at e; exact hq bs e
  · exact h p hp bs e
def spBent : Sp3 := fun ws M Q => ∃ (b d s : Addr) (tl : List (Str × LA)) (l : Sites), ws = [.ref b, .ref d, .ref s] ∧ M b = some .bag ∧ M d = some (.dK (dS vla tl)) ∧ TOk M tl ∧ TL4 tl ∧ (tl.map (·.1)).Nodup ∧ tl.length ≤ 40 ∧ M s = some (.dK (dS vsi l)) ∧ (∀ n ∈ tl.map (·.1), n ∈ l.map (·.1)) ∧ (∀ q ∈ l, Nme q.1) ∧
  ∀ p tl2 M2, M p = none → LeM M M2 → M2 p = some (.dK (dS vla tl2)) → TOk M2 tl2 → TL4 tl2 → (tl2.map (·.1)).Nodup → tl2.length ≤ tl.length + 1 → Q (.ref p) M2
end G3
namespace G3
open PySem PySem.Spec L2 PySem.W
section
variable {β : Type}
theorem putS_keyIn {l : List (Str × β)} {n : Str} {b : β} (h : n ∈ l.map (·.1)) : (putS l n b).map (·.1) = l.map (·.1) := by
  rw [putS_keys, if_pos h]
theorem putS_len_in {l : List (Str × β)} {n : Str} {b : β} (h : n ∈ l.map (·.1)) : (putS l n b).length = l.length := by
  have := congrArg List.length (putS_keyIn (b := b) h)
  rwa [List.length_map, List.length_map] at this
end
end G3

set_option Elab.async false
set_option linter.all false
set_option maxRecDepth 100000
set_option maxHeartbeats 4000000
set_option pp.maxSteps 1000
namespace G3
open PySem PySem.Spec L2
local macro_rules | `(tactic| walk_at "at") => `(tactic| with_reducible (repeat (first | exact At.here | apply At.there)))
local macro_rules | `(tactic| walk_at "vis") => `(tactic| first | exact Or.inl rfl | exact Or.inr (Or.inl rfl) | exact Or.inr (Or.inr rfl))
local macro_rules | `(tactic| walk_at "loc") => `(tactic| first | exact Or.inl rfl | exact Or.inr rfl)
local macro_rules | `(tactic| walk_at "as") => `(tactic| with_reducible assumption)
local macro_rules | `(tactic| walk_at "e") => `(tactic| first
  | ((with_reducible show G3.WE _ (.Name _ _) _ _ _); first | refine we_nm (by walk_at "as") (by walk_at "at") (by walk_at "vis") (by rfl) ?_ | refine we_tyn (by walk_at "as") (by rfl) (by walk_at "as") (by walk_at "as") ?_ | refine we_cls (C := He.ga _ _) (by walk_at "as") (by rfl) (by walk_at "as") ?_ | refine we_nmH (by walk_at "as") (by walk_at "at") (by walk_at "vis") (by rfl) ?_ | refine we_tynH (by walk_at "as") (by rfl) (by walk_at "as") (by walk_at "as") ?_ | refine we_clsH (C := He.ga _ _) (by walk_at "as") (by rfl) (by walk_at "as") ?_)
  | ((with_reducible show G3.WE _ (.Constant (.int _) _ _) _ _ _); refine we_int ?_)
  | ((with_reducible show G3.WE _ (.Subscript _ (.Slice _ _ (some _) _) _) _ _ _); refine we_rev ?_)
  | ((with_reducible show G3.WE _ (.Subscript _ (.Slice _ _ none _) _) _ _ _); refine we_slice ?_)
  | ((with_reducible show G3.WE _ (.Subscript _ _ _) _ _ _); refine we_ix ?_)
  | ((with_reducible show G3.WE _ (.BinOp _ _ _ _) _ _ _); refine we_op ?_)
  | ((with_reducible show G3.WE _ (.Call (.Name _ _) _ _ _) _ _ _); first
      | refine we_call (by walk_at "as") (by walk_at "as") (by decide) (by rfl) ?_
      | refine we_callB (by walk_at "as") (by rfl) (by walk_at "as") (by walk_at "as") ?_
      | refine we_callTy (by walk_at "as") (by rfl) (by walk_at "as") (by walk_at "as") ?_
      | refine we_callX (by walk_at "as") (by walk_at "as") (by walk_at "as") (by decide) (by rfl) (by walk_at "as") ?_
      | refine we_callBH (by walk_at "as") (by rfl) (by walk_at "as") (by walk_at "as") ?_)
  | ((with_reducible show G3.WE _ (.Attribute _ _ _) _ _ _); first | refine we_fld (by walk_at "as") ?_ | refine we_xfH (by walk_at "as") (by walk_at "as") (by walk_at "as") (by walk_at "as") ?_)
  | ((with_reducible show G3.WE _ (.Tuple _ _ _) _ _ _); refine we_tup ?_)
  | ((with_reducible show G3.WE _ (.List _ _) _ _ _); first | refine we_lstN ?_ | refine we_lst ?_)
  | ((with_reducible show G3.WE _ (.Compare _ [_] _ _) _ _ _); refine we_cmp ?_)
  | ((with_reducible show G3.WE _ (.Compare _ [_, _] _ _) _ _ _); refine we_chain ?_)
  | ((with_reducible show G3.WE _ (.UnaryOp .Not _ _) _ _ _); refine we_not ?_)
  | ((with_reducible show G3.WE _ (.UnaryOp _ _ _) _ _ _); refine we_un ?_)
  | ((with_reducible show G3.WE _ (.IfExp _ _ _ _) _ _ _); refine we_if ?_)
  | ((with_reducible show G3.WE _ (.Constant _ _ _) _ _ _); first | refine we_bl ?_ | refine we_non ?_ | refine we_str ?_)
  | ((with_reducible show G3.WE _ (.JoinedStr (_ :: _ :: _) _) _ _ _); refine we_joined ?_)
  | ((with_reducible show G3.WE _ (.FormattedValue _ _ _ _) _ _ _); refine we_fmt ?_)
  | ((with_reducible show G3.WE _ (.BoolOp _ [_] _) _ _ _); refine we_one ?_)
  | ((with_reducible show G3.WE _ (.BoolOp .And _ _) _ _ _); refine we_and ?_)
  | ((with_reducible show G3.WE _ (.BoolOp .Or _ _) _ _ _); refine we_or ?_))
local macro_rules | `(tactic| walk_at "t") => `(tactic| first
  | ((with_reducible show WT _ (.Compare _ [_] _ _) _ _ _); refine wt_cmp ?_)
  | ((with_reducible show WT _ (.Compare _ [_, _] _ _) _ _ _); refine wt_chain ?_)
  | ((with_reducible show WT _ (.UnaryOp .Not _ _) _ _ _); refine wt_not ?_)
  | ((with_reducible show WT _ (.BoolOp .And _ _) _ _ _); refine wt_w (ww_and ?_))
  | ((with_reducible show WT _ (.BoolOp .Or _ _) _ _ _); refine wt_w (ww_or ?_))
  | refine wt_truth ?_)
local macro_rules | `(tactic| walk_at "w") => `(tactic| first
  | ((with_reducible show WW _ (.BoolOp .And [_] _) _ _ _); refine ww_and1 ?_)
  | ((with_reducible show WW _ (.BoolOp .Or [_] _) _ _ _); refine ww_or1 ?_)
  | ((with_reducible show WW _ (.BoolOp .And _ _) _ _ _); refine ww_and ?_)
  | ((with_reducible show WW _ (.BoolOp .Or _ _) _ _ _); refine ww_or ?_))
local macro_rules | `(tactic| walk_at "st") => `(tactic| first
  | ((with_reducible show WS _ (.Assign [.Name _ _] (.ListComp _ _ _ _) _) _ _ _); fail)
  | ((with_reducible show WS _ (.Assign [.Name _ _] _ _) _ _ _); first | refine ws_set (by walk_at "as") (by walk_at "at") (by walk_at "loc") ?_ | refine ws_setH (by walk_at "as") (by walk_at "at") (by walk_at "loc") ?_)
  | ((with_reducible show WS _ (.Return (some _) _) _ _ _); refine ws_ret ?_)
  | ((with_reducible show WS _ (.If _ _ _ _) _ _ _); refine ws_if ?_)
  | ((with_reducible show WS _ (.Expr (.Call (.Attribute _ "append" _) _ _ _) _) _ _ _); refine ws_append ?_)
  | ((with_reducible show WS _ (.Expr (.Call (.Attribute _ "insert" _) _ _ _) _) _ _ _); refine ws_insert ?_)
  | ((with_reducible show WS _ (.Expr _ _) _ _ _); refine ws_expr ?_)
  | ((with_reducible show WS _ (.Assign [.Tuple _ _ _] (.Tuple _ _ _) _) _ _ _); first
      | refine ws_par2 (by walk_at "as") (by walk_at "at") (by walk_at "at") (by rfl) (by rfl) (by rfl) (by rfl) ?_
      | refine ws_asgT (by walk_at "as") (by rfl) ?_)
  | ((with_reducible show WS _ (.Raise (some _) none _) _ _ _); refine ws_raise (by walk_at "as") (by walk_at "as") ?_)
  | ((with_reducible show WS _ (.Assign [_] _ _) _ _ _); (fail_if_success (with_reducible show WS _ (.Assign [.Attribute _ _ _] _ _) _ _ _)); refine ws_asg ?_)
  | ((with_reducible show WS _ (.Return none _) _ _ _); refine ws_retN ?_)
  | ((with_reducible show WS _ (.Pass _) _ _ _); refine ws_pass ?_)
  | ((with_reducible show WS _ (.Break _) _ _ _); refine ws_break ?_)
  | ((with_reducible show WS _ (.Continue _) _ _ _); refine ws_continue ?_))
local macro_rules | `(tactic| walk_at "mul") => `(tactic| with_unfolding_all first
  | exact cml (by decide) (by decide)
  | exact cmr (by decide) (by decide)
  | exact cmw (by with_reducible assumption) (by with_reducible assumption) (by decide) (by decide) (by decide)
  | exact cml (by omega) (by omega)
  | exact cmr (by omega) (by omega))
local macro_rules | `(tactic| walk_at "o2") => `(tactic| with_reducible first
  | refine o2_add ?_
  | refine o2_sub ?_
  | refine o2_mul (by walk_at "mul") ?_
  | refine o2_lt ?_
  | refine o2_le ?_
  | refine o2_gt ?_
  | refine o2_ge ?_
  | refine o2_eqi ?_
  | refine o2_nei ?_
  | refine o2_eqb ?_
  | refine o2_neb ?_
  | refine o2_eqs ?_
  | refine o2_nes ?_
  | refine o2_isN ?_
  | refine o2_notN ?_)
local macro_rules | `(tactic| walk_at "x") => `(tactic| first
  | ((with_reducible show G3.WE _ _ _ _ _); walk_at "e")
  | ((with_reducible show WA _ _ _ _ _); first | refine wa_cons ?_ | refine wa_nil ?_)
  | ((with_reducible show WMk _ (.Call (.Name _ _) [] _ _) _ _ _); refine wmk_own0 (by walk_at "as") (by walk_at "as") (by decide) (by rfl) ?_)
  | ((with_reducible show WO _ _ _ _ _); first | (show G3.WE _ _ _ _ _))
  | ((with_reducible show WT _ _ _ _ _); walk_at "t")
  | ((with_reducible show G3.WJ _ _ _ _ _ _); first | refine wj_cons ?_ | refine wj_nil ?_)
  | ((with_reducible show G3.WK _ _ _ _ _); first | refine wk_cons ?_ | refine wk_nil ?_)
  | ((with_reducible show WW _ _ _ _ _); walk_at "w")
  | ((with_reducible show WS _ _ _ _ _); walk_at "st")
  | ((with_reducible show O2 _ _ _ _ _ _); walk_at "o2")
  | ((with_reducible show OI _ (.tup _) _ _ _); refine oi_tup rfl ?_)
  | ((with_reducible show OC _ _ _ _ _); with_reducible first | refine oc_abs ?_ | refine oc_int ?_ | refine oc_intb ?_ | refine oc_lenT ?_)
  | ((with_reducible show O1 _ _ _ _ _); refine o1_neg ?_)
  | ((with_reducible show BQ _ _ _); refine ⟨_, rfl, ?_⟩)
  | ((with_reducible show WG _ _ _ _ _ _); first | refine wg_name (by walk_at "as") (by walk_at "at") (by walk_at "loc") ?_ | refine wg_tup (by walk_at "as") ?_)
  | ((with_reducible show WGs _ _ _ _ _ _); first | refine wgs_cons (by walk_at "as") (by walk_at "at") (by walk_at "loc") ?_ | refine wgs_nil ?_))
local macro_rules | `(tactic| walk_at "s") => `(tactic| first
  | walk_at "x"
  | ((with_reducible show WSs _ _ _ _ _); first | refine wss_cons ?_ | refine wss_nil ?_))
theorem df_mix5 {E : Ev} (hLi : E.mg "list" = none) (hL : E.mg "len" = none) (hR : E.mg "range" = none) (D1 : E.df 1 "_law_pull" ["_law_draw", "_law_top"] spDraw) (T : Tx E "_law_mixed" (top 16) ["_law_draw", "_law_some"]) : E.df 2 "_law_mixed" ["_law_draw", "_law_some"] spMix := by
  refine T.df ["_law_draw", "_law_some", "_law_left", "_law_found", "_law_k"] ⟨rfl, rfl, rfl, by decide +kernel, rfl, by decide +kernel, by decide +kernel⟩ (fun ws M Q ⟨_, _, _, _, _, e, _⟩ => by rw [e]; rfl) fun X B ws M Q ⟨α, v, b, w, ns, e, hb, hw, hlen, q⟩ => ?_
  subst e
  have bL := bb_len
  have bLi := bb_list
  show WSs X _ [some (.ref b), some (w), none, none, none] M _
  repeat (walk_at "s")
  refine oc_list hw fun r nr' => ?_
  have hr1 : updM M r (.lst (ns.map v)) r = some (.lst (ns.map v)) := updM_same
  have l1 := LeM.new (o := .lst (ns.map v)) nr'
  generalize updM M r (.lst (ns.map v)) = M1 at hr1 l1
  repeat (walk_at "s")
  refine ⟨by show 0 ≤ sizeLine; decide, fun p M2 np1 l12 hp2 => ?_⟩
  have pr : p ≠ r := by rintro rfl; rw [hr1] at np1; cases np1
  have np := l1.none np1
  have hr := l12 _ _ hr1
  have l2 := l1.trans l12
  clear l1 hr1 np1 l12
  repeat (walk_at "s")
  refine ws_forRange1 B rfl hR ?_
  repeat (walk_at "s")
  refine oc_len (hw.le l2) ?_
  rw [List.length_map]
  repeat (walk_at "s")
  refine ⟨_, rfl, ⟨by omega, by omega⟩, fun i σ M' => ∃ (fs ls : List α), ∃ (x4 : Option VV), σ = [some (.ref b), some (w), some (.ref r), some (.ref p), x4] ∧ M' p = some (.lst (fs.map v)) ∧ M' r = some (.lst (ls.map v)) ∧ LeM M M' ∧ fs.length = i ∧ ls.length + i = ns.length ∧ (fs ++ ls).Perm ns,
    ⟨[], ns, _, rfl, hp2, hr, l2, rfl, rfl, .refl _⟩, fun _ _ _ _ _ => trivial, ?_, ?_⟩
  · rintro i u σ M1 hi rfl ⟨fs, ls, x4, rfl, gp, gr, le, hf, hl, hm⟩
    repeat (walk_at "s")
    refine ⟨p, _, rfl, gp, ?_⟩
    repeat (walk_at "s")
    refine we_popAt ?_
    repeat (walk_at "s")
    refine ⟨r, _, rfl, gr, ?_⟩
    repeat (walk_at "s")
    refine oc_len (.ref gr) ?_
    rw [List.length_map]
    repeat (walk_at "s")
    refine ⟨b, _, rfl, le _ _ hb, by omega, by omega, fun x x0 x1 => ?_⟩
    obtain ⟨j, rfl⟩ := Int.eq_ofNat_of_zero_le x0
    have hj : j < ls.length := by omega
    have hg : ls[j]? = some ls[j] := by simp [hj]
    refine ⟨j, _, v ls[j], rfl, gr, by omega, by rw [List.getElem?_map, hg]; rfl, ?_⟩
    refine ⟨_, by rw [updM_ne pr]; exact gp, Nat.lt_of_le_of_lt (show _ ≤ 200 by rw [List.length_map]; omega) (by decide), ?_⟩
    repeat (walk_at "s")
    refine ⟨fs ++ [ls[j]], ls.eraseIdx j, _, rfl, by rw [updM_same, List.map_append]; rfl, ?_, LeM.put (LeM.put le nr') np, by rw [List.length_append, hf]; rfl, ?_, ?_⟩
    · rw [updM_ne pr.symm, updM_same]
      congr 2
      rw [List.eraseIdx_eq_take_drop_succ, List.eraseIdx_eq_take_drop_succ, List.map_append, List.map_take, List.map_drop]
    · rw [List.length_eraseIdx_of_lt hj]; omega
    · rw [List.append_assoc]
      exact ((erase_perm hj).append_left fs).trans hm
  · rintro σ M1 ⟨fs, ls, x4, rfl, gp, gr, le, hf, hl, hm⟩
    rw [Int.toNat_natCast] at hf hl
    have e0 : ls = [] := List.eq_nil_of_length_eq_zero (by omega)
    subst e0
    rw [List.append_nil] at hm
    repeat (walk_at "s")
    exact ⟨_, LeM.refl, q p fs M1 np le hm gp⟩
theorem df_names5 {E : Ev} (D1 : E.df 1 "_law_pull" ["_law_draw", "_law_top"] spDraw) (D2 : E.df 2 "_law_mixed" ["_law_draw", "_law_some"] spMix) (T : Tx E "_law_names" (top 17) ["_law_draw"]) : E.df 3 "_law_names" ["_law_draw"] spNames5 := by
  refine T.df ["_law_draw", "_law_letters", "_law_shift", "_law_pool", "_law_sign", "_law_word"] ⟨rfl, rfl, rfl, by decide +kernel, rfl, by decide +kernel, by decide +kernel⟩ (fun ws M Q ⟨_, e, _⟩ => by rw [e]; rfl) fun X B ws M Q ⟨b, e, hb, q⟩ => ?_
  subst e
  show WSs X _ [some (.ref b), none, none, none, none, none] M _
  repeat (walk_at "s")
  refine ⟨b, _, rfl, hb, by decide, by decide, fun sh s0 s1 => ?_⟩
  repeat (walk_at "s")
  refine we_split ?_
  repeat (walk_at "s")
  refine ⟨_, rfl, ?_⟩
  repeat (walk_at "s")
  refine ⟨_, rfl, by decide +kernel, by decide +kernel, fun L M1 nL l1 hL => ?_⟩
  show WSs X _ [some (.ref b), some (.str lettersS), some (.int sh), some (.ref L), none, none] M1 _
  have hL : M1 L = some (.lst ((Txt.split poolS (Str.ofString " ")).map VV.str)) := hL
  have pool := pool_ok
  have plen := pool_len
  generalize Txt.split poolS (Str.ofString " ") = P at hL pool plen
  have hb1 := l1 _ _ hb
  refine wss_cons ?_
  refine ws_setLc B [("_law_word", 5)] (by walk_at "at") (by rfl) (by rfl) (by decide +kernel) (by decide) (pgI1 B (by walk_at "at") (by rfl)) ctg_name ?_
  refine wi_lst ?_
  repeat (walk_at "s")
  refine ⟨_, .ref hL, ?_⟩
  refine compI_rel P (itm_lst (v := VV.str) (.ref hL) (by rw [plen]; decide)) (fun _ y => ∃ s : Str, y = .str s ∧ Nme s) ?_ ?_
  · rintro wd u M2 hw rfl l2
    refine ⟨_, rfl, fun Y BY => ?_⟩
    have okw : okWord wd = true := List.all_eq_true.mp pool wd hw
    unfold okWord at okw
    simp only [Bool.and_eq_true] at okw
    obtain ⟨⟨w1, w6⟩, wa⟩ := okw
    have w1 := of_decide_eq_true w1
    have w6 := of_decide_eq_true w6
    show WE Y _ [some (.ref b), some (.str lettersS), some (.int sh), some (.ref L), none, some (.str wd)] M2 _
    repeat (walk_at "s")
    refine we_join ?_
    repeat (walk_at "s")
    refine ⟨_, rfl, ?_⟩
    refine we_lc BY [("_law_sign", 4)] (by decide +kernel) (by decide) (pgI1 BY (by walk_at "at") (by rfl)) ctg_name ?_
    refine wi_str ?_
    repeat (walk_at "s")
    refine ⟨wd, rfl, ?_⟩
    refine compI_rel wd.cps.toList (itm_chars (Nat.le_trans w6 (by decide))) (fun z y => ∃ s : Str, y = .str s ∧ ∃ c, TL.tl s = [c] ∧ 97 ≤ c ∧ c ≤ 122) ?_ ?_
    · rintro c u M3 hc rfl l3
      refine ⟨_, rfl, fun Z BZ => ?_⟩
      show WE Z _ [some (.ref b), some (.str lettersS), some (.int sh), some (.ref L), some (.str ⟨#[c]⟩), some (.str wd)] M3 _
      obtain ⟨i, rest, ho, hi⟩ := okSign_is (List.all_eq_true.mp wa c hc)
      repeat (walk_at "s")
      refine we_sindex ?_
      repeat (walk_at "s")
      refine ⟨_, rfl, ?_⟩
      repeat (walk_at "s")
      refine ⟨_, i, rest, rfl, ho, ?_⟩
      repeat (walk_at "s")
      refine o2_mod (by decide) ?_
      have z0 : (0 : Int) ≤ ((i : Int) + sh) % 26 := Int.emod_nonneg _ (by decide)
      have z1 : ((i : Int) + sh) % 26 < 26 := Int.emod_lt_of_pos _ (by decide)
      obtain ⟨j, hj⟩ := Int.eq_ofNat_of_zero_le z0
      have hj26 : j < 26 := by omega
      have hlen : lettersS.cps.toList.length = 26 := by decide +kernel
      have hall : ∀ c ∈ lettersS.cps.toList, 97 ≤ c ∧ c ≤ 122 := by decide +kernel
      rw [hj]
      refine oi_str (by decide +kernel) (atI_nat (List.getElem?_eq_getElem (by rw [hlen]; exact hj26))) ?_
      exact ⟨⟨_, rfl, _, rfl, hall _ (List.getElem_mem _)⟩, LeM.refl⟩
    intro D hD ys M' fr l
    obtain ⟨yl, rfl, e1, e2, e3⟩ := strs1 (ys := ys) fun y hy => by
      obtain ⟨z, _, h, _⟩ := fr.mem hy
      exact h
    have hc : yl.length = wd.cps.size := by rw [e1, fr.full, Array.length_toList]
    refine ⟨yl, .ref (l _ _ updM_same), ?_, ?_⟩
    · rw [e2, show (Str.ofString "").length = 0 by decide +kernel]
      omega
    · exact ⟨⟨_, rfl, nme_join e3 (by omega) (by omega)⟩, (LeM.new hD).trans l⟩
  intro D nD ys M2 fr l2
  obtain ⟨pl, rfl, pe, pn⟩ := fr_strs fr
  have hD : M2 D = some (.lst (pl.map VV.str)) := l2 _ _ updM_same
  have l02 := l1.trans ((LeM.new nD).trans l2)
  repeat (walk_at "s")
  refine ⟨Str, .str, b, .ref D, pl, rfl, l02 _ _ hb, .ref hD, by rw [pe, plen]; decide, fun p ys M3 np l3 pm hp => ?_⟩
  exact ⟨M3, LeM.refl, q p ys M3 (l02.none np) (l02.trans l3) hp (by rw [pm.length_eq, pe, plen]) fun x hx => pn x (pm.mem_iff.mp hx)⟩
theorem df_lsites5 {E : Ev} (hR : E.mg "range" = none) (D1 : E.df 1 "_law_pull" ["_law_draw", "_law_top"] spDraw) (D2 : E.df 2 "_law_any" ["_law_draw", "_law_some"] spAny) (D3 : E.df 3 "_law_names" ["_law_draw"] spNames5) (T : Tx E "_law_small_sites" (top 22) ["_law_draw"]) : E.df 4 "_law_small_sites" ["_law_draw"] spSites5 := by
  refine T.df ["_law_draw", "_law_found", "_law_names_here", "_law_wide", "_law_k", "_law_pair"] ⟨rfl, rfl, rfl, by decide +kernel, rfl, by decide +kernel, by decide +kernel⟩ (fun ws M Q ⟨_, e, _⟩ => by rw [e]; rfl) fun X B ws M Q ⟨b, e, hb, q⟩ => ?_
  subst e
  show WSs X _ [some (.ref b), none, none, none, none, none] M _
  repeat (walk_at "s")
  refine we_dnewN fun f M1 nf l1 hf => ?_
  repeat (walk_at "s")
  refine ⟨b, rfl, l1 _ _ hb, fun L names M2 nL l2 hL nlen nn => ?_⟩
  repeat (walk_at "s")
  refine ⟨by show 3 ≤ sizeLine; decide, fun Z M3 nZ l3 hZ => ?_⟩
  repeat (walk_at "s")
  refine ⟨b, .ref Z, _, rfl, l3 _ _ (l2 _ _ (l1 _ _ hb)), .ref hZ, by show 0 < 3; decide, by show 3 < 1000000; decide, fun y hy => ?_⟩
  obtain ⟨wd, rfl, w0, w1⟩ : ∃ wd : Int, y = .int wd ∧ 0 < wd ∧ wd < 100 := by
    simp only [List.mem_cons, List.not_mem_nil, or_false] at hy
    rcases hy with h | h | h <;> exact ⟨_, h, by decide, by decide⟩
  have hL3 := l3 _ _ hL
  have hf3 : M3 f = some (.dK (dS vsi [])) := l3 _ _ (l2 _ _ hf)
  have l03 := l1.trans (l2.trans l3)
  have fL : f ≠ L := fun z => by subst z; rw [l2 _ _ hf] at hL; cases hL
  clear hy hZ nZ hf hL nL
  refine wss_cut (fun σ M' => ∃ (l : Sites), ∃ (x4 x5 : Option VV), σ = [some (.ref b), some (.ref f), some (.ref L), some (.int wd), x4, x5] ∧ LeM M M' ∧ M' f = some (.dK (dS vsi l)) ∧ (l.map (·.1)).Nodup ∧ l.length ≤ 8 ∧ (∀ q ∈ l, Nme q.1)) ?_ ?_
  · refine ws_forRange1 B rfl hR ?_
    repeat (walk_at "s")
    refine ⟨b, _, rfl, l03 _ _ hb, by decide, by decide, fun r r0 r1 => ?_⟩
    repeat (walk_at "s")
    have hr8 : r.toNat ≤ 8 := by omega
    refine ⟨_, rfl, ⟨by omega, by omega⟩, fun i σ M' => ∃ (l : Sites), ∃ (x4 x5 : Option VV), σ = [some (.ref b), some (.ref f), some (.ref L), some (.int wd), x4, x5] ∧ LeM M M' ∧ M' L = some (.lst (names.map .str)) ∧ M' f = some (.dK (dS vsi l)) ∧ (l.map (·.1)).Nodup ∧ l.length ≤ i ∧ (∀ q ∈ l, Nme q.1), ⟨[], _, _, rfl, l03, hL3, hf3, List.nodup_nil, Nat.le_refl _, fun _ h => nomatch h⟩, fun _ _ _ _ _ => trivial, ?_, ?_⟩
    · rintro i u σ M' hi rfl ⟨l, x4, x5, rfl, l4, hL4, hf4, nd, ll, nm⟩
      have hi8 : i < 8 := by omega
      have hn : names[i]? = some names[i] := by rw [List.getElem?_eq_getElem]
      walk_at "s"
      refine wss_cons (ws_set B (by walk_at "at") (by walk_at "loc") ?_)
      refine we_tupF ?_
      repeat (walk_at "s")
      refine ⟨b, _, rfl, l4 _ _ hb, w0, by omega, fun x x0 x1 => ?_⟩
      repeat (walk_at "s")
      refine ⟨b, _, rfl, l4 _ _ hb, w0, by omega, fun y y0 y1 => ?_⟩
      repeat (walk_at "s")
      refine ⟨by show 2 ≤ sizeLine; decide, ?_⟩
      repeat (walk_at "s")
      refine ⟨b, _, rfl, l4 _ _ hb, by decide, by decide, fun a a0 a1 => ?_⟩
      repeat (walk_at "s")
      refine ⟨b, _, rfl, l4 _ _ hb, by decide, by decide, fun c c0 c1 => ?_⟩
      repeat (walk_at "s")
      refine o2_mod (by omega) ?_
      repeat (walk_at "s")
      refine ⟨by show 2 ≤ sizeLine; decide, ?_⟩
      refine wg_sub ?_
      repeat (walk_at "s")
      refine oi_lst (.ref hL4) (atI_nat (j := i) (by rw [List.getElem?_map, hn]; rfl)) ?_
      refine oset_dK B (.inr names[i]) hf4 (by rw [List.length_map]; exact Nat.lt_of_le_of_lt (Nat.le_trans ll (Nat.le_of_lt hi8)) (by decide)) ?_
      rw [show (VV.tup [.ftp [.int (x - 1), .int (y - 1)], .int (1 + a % (1 + c))]) = vsi ((x - 1, y - 1), 1 + a % (1 + c)) from rfl, dS_put]
      repeat (walk_at "s")
      refine ⟨_, _, _, rfl, l4.put nf, by rw [updM_ne fL.symm]; exact hL4, updM_same, putS_nodup nd, Nat.le_trans (putS_len _ _ _) (Nat.succ_le_succ ll), fun p hp => ?_⟩
      rcases putS_mem hp with ⟨e, _⟩ | hp
      · rw [e]; exact nn _ (List.getElem_mem _)
      · exact nm p hp
    · rintro σ M' ⟨l, x4, x5, rfl, l4, hL4, hf4, nd, ll, nm⟩
      exact ⟨l, _, _, rfl, l4, hf4, nd, by omega, nm⟩
  rintro σ M4 ⟨l, x4, x5, rfl, l4, hf4, nd, ll, nm⟩
  repeat (walk_at "s")
  exact ⟨M4, LeM.refl, q l f M4 nf l4 hf4 nd ll nm⟩
end G3

set_option Elab.async false
set_option linter.all false
set_option maxRecDepth 100000
set_option maxHeartbeats 4000000
/-! in by an own ==; own == against a dict; dict of pairs -/
namespace GQ
open PySem PySem.SeqAt
open AutoSeq1 (wpAny_loadPart')
open MeetsSeq MeetsSeq2 MeetsSeq3 SeqRoads2
section
variable {prog : Program} {w : World} {A : Around} {R : Result → Shared → Prop}
theorem loop_end (l : Addr) (items : Array Value) (hi : items[(1 : Int).toNat]? = none) (x : Value) {s : Shared} (hl : s.heap.IsList l items) (h : R (.ok (.ret (.bool false))) s) :
    wpAny (model prog w) A.in1 (Builtin.«list.__contains__.loop» ⟨[.ref l, x, rawInt 1], []⟩) (FinOf prog w A R) (fun e s' => R (.error e) s') s := by
  obtain ⟨⟨cls, dd, data, sl⟩, ho, hc, n, hd⟩ := id hl
  simp only at hc hd
  subst hc hd
  obtain ⟨hp, g, d, tk, os⟩ := s
  wp_walk using wpAny_loadPart' ho
  rw [hi]
  wp_walk
  exact h
theorem loop_one (l : Addr) (items : Array Value) (y x : Value) (h0 : items[(0 : Int).toNat]? = some y) (hi : items[(1 : Int).toNat]? = none) {s : Shared} (hl : s.heap.IsList l items) (h : wpAny (model prog w) A.in1 (eqBool y x) (fun r s' => s'.heap.IsList l items ∧ R (.ok (.ret (.bool r))) s') (fun e s' => R (.error e) s') s) :
    wpAny (model prog w) A.in1 (Builtin.«list.__contains__.loop» ⟨[.ref l, x, rawInt 0], []⟩) (FinOf prog w A R) (fun e s' => R (.error e) s') s := by
  obtain ⟨⟨cls, dd, data, sl⟩, ho, hc, n, hd⟩ := id hl
  simp only at hc hd
  subst hc hd
  obtain ⟨hp, g, d, tk, os⟩ := s
  wp_walk using wpAny_loadPart' ho
  rw [h0]
  refine wpAny_bind (wpAny_mono h (fun r s2 h2 => ?_) fun _ _ x => x)
  obtain ⟨hl2, h2⟩ := h2
  cases r with
  | true =>
    obtain ⟨hp2, g2, d2, tk2, os2⟩ := s2
    wp_walk
    exact h2
  | false =>
    have e := loop_end (prog := prog) (w := w) (A := A) (R := R) l items hi x hl2 h2
    obtain ⟨hp2, g2, d2, tk2, os2⟩ := s2
    wp_walk
    exact ⟨plainId_quiet plain_contains_loop _, codeAny_builtin entry_contains_loop (by
      rw [Around.under_plainId plain_contains_loop _]
      exact e)⟩
theorem list_one (l : Addr) (y x : Value) {s : Shared} (hl : s.heap.IsList l #[y]) (h : wpAny (model prog w) A.in1 (eqBool y x) (fun r s' => s'.heap.IsList l #[y] ∧ R (.ok (.ret (.bool r))) s') (fun e s' => R (.error e) s') s) :
    wpAny (model prog w) A.in1 (Builtin.«list.__contains__» ⟨[.ref l, x], []⟩) (FinOf prog w A R) (fun e s' => R (.error e) s') s := by
  have e := loop_one (prog := prog) (w := w) (A := A) (R := R) l #[y] y x rfl rfl hl h
  obtain ⟨⟨cls, dd, data, sl⟩, ho, hc, n, hd⟩ := id hl
  simp only at hc hd
  subst hc hd
  obtain ⟨hp, g, d, tk, os⟩ := s
  wp_walk using wpAny_loadPart' ho
  exact ⟨plainId_quiet plain_contains_loop _, codeAny_builtin entry_contains_loop (by
    rw [Around.under_plainId plain_contains_loop _]
    exact e)⟩
end
section
variable {prog : Program} {w : World} {A : Around} {E : Value → Shared → Prop} {s : Shared}
theorem in_one {l : Addr} {y x : Value} {Q : Value → Shared → Prop} (hl : s.heap.IsList l #[y]) (h : wpAny (model prog w) A.in1 (eqBool y x) (fun r s' => s'.heap.IsList l #[y] ∧ Q (.bool r) s') E s) : wpAny (model prog w) A (compareOp .In x (.ref l)) Q E s := by
  have hT : s.TypeIs (.ref l) "list" := let ⟨o, ho, hc, _⟩ := hl; ⟨o, ho, hc⟩
  show wpAny _ A (do return .bool (← contains (.ref l) x)) Q E s
  refine wpAny_bind (wpAny_contains_slot hT F.slot_list_contains (call_here F.slot_list_contains hT F.entry_list_contains (F.args_list_contains_2 _ _) ?_))
  refine list_one (R := wants (fun r s' => wpAny (model prog w) A (truthy r) _ E s') E) l y x hl (wpAny_mono h (fun r s' hr => ⟨hr.1, ?_⟩) fun _ _ e => e)
  exact wpAny_truthy_bool (wpAny_pure hr.2)
end
end GQ
namespace G3
open PySem PySem.Spec L2 PyProof.Rows
section
variable {X : Cx} {E : Ev} {N : List Str} {sc : Scope} {fl : Bool} {k k' : Nat} {x m : Str} {sp : SpX} {M : Mp} {Q : VQ} {a c L : Addr} {fs fs2 : List (Str × VV)} {y : VV}
/-- x in [y], by an own == -/
theorem o2_inOwn (B : E.bd N sc fl k X) (F : E.mtx k' x "__eq__" ["self", "other"] sp) (hm : Meth E.K (He.ga E.K x) "__eq__" (He.ma E.K (He.ga E.K x) "__eq__")) (hk : k' + 1 ≤ k) (hn : PySem.W.notFirst E.K (He.ga E.K x) (.ref (He.ga E.K x)) = true) (mc : M c = some (.ins (He.ga E.K x) fs)) (ma : M a = some (.ins (He.ga E.K x) fs2)) (hca : c ≠ a) (mL : M L = some (.lst [.ref c]))
    (h : sp [.ref c, .ref a] M (fun u M' => ∃ k, u = .bl k ∧ M' L = some (.lst [.ref c]) ∧ Q (.bl k) M') noX) : O2 X (compareOp .In) (.ref a) (.ref L) M Q := fun H v u mm r1 r2 pins s σ v1 u1 I z1 z2 => by
  cases r1; cases z1; cases r2; cases z2
  have isl : ∀ {M' : Mp} {H' : Hp} {s' : Shared}, SimM X.K M' H' → Inv X pins σ H' s' → M' L = some (.lst [.ref c]) → s'.heap.IsList L #[.ref c] := fun {M' H' s'} mm I e => by
    obtain ⟨vs, h1, h2⟩ := mm _ _ e
    cases h2 with | cons ra rb =>
    cases rb; cases ra
    obtain ⟨its, rv, pl, _⟩ := I.list (SqL.of h1)
    cases rv with | cons ra rb =>
    cases rb; cases ra
    exact pl.isList
  have eK := B.eK
  obtain ⟨dx, gs, h1, _⟩ := mm _ _ mc
  obtain ⟨ox, od, J⟩ := ins_at I h1
  obtain ⟨fr, hF⟩ := I.fr
  have hu := B.room.units
  have hr := (B.room.mono hk).in1
  refine GQ.in_one (isl mm I mL) ?_
  refine GQ.eqBool_refG hca ?_
  have hy : TB M (.ref a) (.ref (He.ga E.K x)) := .ins ma
  refine PySem.W.cmp_K (op := .Eq) (show X.A.in1.units < cLine by have := hr.units; omega) hF I.ok.mod.kin J (hy.looks I mm (.ref a) rfl) (by rw [eK]; exact hn) (by rw [eK]; exact hm.at_) (by rw [eK]; exact hm.fn) ?_
  refine wpAny_mono (run_own B F hr rfl I mm (.cons (.ref c) (.cons (.ref a) .nil)) (.cons rfl (.cons rfl .nil)) rfl h) (fun r s' ⟨v', H', I', rv', u', M', t', m', rr, k, eu, eL, q⟩ => ?_) fun _ _ e => e
  subst eu; cases rr
  cases (show r = Value.bool k from rv')
  exact ⟨k, rfl, isl m' I' eL, .bl k, H', I', rfl, .bl k, M', t', m', .bl k, q⟩
/-- own == against a dict -/
theorem o2_eqOwnD (B : E.bd N sc fl k X) (F : E.mtx k' x "__eq__" ["self", "other"] sp) (hm : Meth E.K (He.ga E.K x) "__eq__" (He.ma E.K (He.ga E.K x) "__eq__")) (hk : k' ≤ k) (ma : M a = some (.ins (He.ga E.K x) fs)) {kvs : List (Key × VV)} (hc : M c = some (.dK kvs)) (hn : PySem.W.notFirst E.K (He.ga E.K x) (.type "dict") = true)
    (h : sp [.ref a, .ref c] M (fun u M' => ∃ k, u = .bl k ∧ Q (.bl k) M') noX) : O2 X (compareOp .Eq) (.ref a) (.ref c) M Q := fun H v u mm r1 r2 pins s σ v1 u1 I z1 z2 => by
  cases r1; cases z1; cases r2; cases z2
  have eK := B.eK
  obtain ⟨dx, gs, h1, _⟩ := mm _ _ ma
  obtain ⟨ox, od, J⟩ := ins_at I h1
  obtain ⟨fr, hF⟩ := I.fr
  have hu := B.room.units
  obtain ⟨ks, hd, rk⟩ := mm _ _ hc
  obtain ⟨_, yd, vd, rd, dd⟩ := (show ObjOk X.prog X.w H s.heap c (.dK ks) from I.hok c _ hd)
  have lk : PySem.W.Looks (model X.prog X.w) s.heap (typeOf (.ref c)) (.type "dict") := by
    obtain ⟨o, ho, hcl⟩ : ∃ o, s.heap.get? c = some o ∧ o.cls = .type "dict" := dd.typeIs
    exact hcl ▸ (PySem.W.Looks.ld ho).andThen .now
  show wpAny (model X.prog X.w) X.A (richCompare .Eq (.ref a) (.ref c)) _ _ _
  refine PySem.W.cmp_K (op := .Eq) (by omega) hF I.ok.mod.kin J lk (by rw [eK]; exact hn) (by rw [eK]; exact hm.at_) (by rw [eK]; exact hm.fn) ?_
  refine wpAny_mono (run_own B F (B.room.mono hk) rfl I mm (.cons (.ref a) (.cons (.ref c) .nil)) (.cons rfl (.cons rfl .nil)) rfl h) (fun r s' ⟨v', H', I', rv', u', M', t', m', rr, k, eu, q⟩ => ?_) fun _ _ e => e
  subst eu; cases rr
  cases (show r = Value.bool k from rv')
  exact ⟨.bl k, H', I', rfl, .bl k, M', t', m', .bl k, q⟩
end
section
variable {X : Cx} {M : Mp} {Q : VQ}
theorem Rkv.merge {K : PySem.W.Frag} {H : Hp} : ∀ {gs : List (Key × V)} {kvs : List (Key × VV)} {as : List (Key × V)} {bs : List (Key × VV)}, Rkv K H gs kvs → Rkv K H as bs → Rkv K H (mergeK as gs) (foldW kvs bs) := by
  intro gs kvs as bs r
  unfold mergeK foldW
  induction r generalizing as bs with
  | nil => exact fun h => h
  | cons h1 _ ih => exact fun h => ih (h.put _ h1)
theorem pairs_in {K : PySem.W.Frag} {H : Hp} : ∀ {kvs : List (Key × VV)} {vs : List V}, Rvs K H vs (kvs.map fun p => .tup [kW p.1, p.2]) → ∃ ps gs, vs = ps.map V.ref ∧ Paired (fun p (kv : Key × V) => SqT K H p [kV kv.1, kv.2]) ps gs ∧ Rkv K H gs kvs
  | [], vs, h => by
    cases h
    exact ⟨[], [], rfl, .nil, .nil⟩
  | p :: kvs, vs, h => by
    rw [List.map_cons] at h
    cases h with | cons h1 h2 =>
    obtain ⟨a, us, rfl, e1, e2⟩ := h1.tupv
    cases e2 with | cons e3 e4 =>
    cases e4 with | cons e5 e6 =>
    cases e6
    have ek := Rv.key e3
    subst ek
    obtain ⟨ps, gs, rfl, pp, rr⟩ := pairs_in h2
    exact ⟨a :: ps, (p.1, _) :: gs, rfl, .cons e1 pp, .cons e5 rr⟩
/-- dict(xs) of pairs -/
theorem oc_dictP (hc : X.calm = true) {a : Addr} {kvs : List (Key × VV)} (h : M a = some (.lst (kvs.map fun p => .tup [kW p.1, p.2]))) (q : ∀ p M2, M p = none → LeM M M2 → M2 p = some (.dK (foldW kvs [])) → Q (.ref p) M2) : OC X (.type "dict") [.ref a] M Q := fun H vs m r => by
  cases r with | cons r1 r2 =>
  cases r2; cases r1
  obtain ⟨us, e1, e2⟩ := m _ _ h
  obtain ⟨ps, gs, rfl, pp, rr⟩ := pairs_in e2
  refine wCall.of (call_dictP hc) ⟨a, ps, gs, rfl, SqL.of e1, pp, fun p hp => ?_⟩
  have t : TM H (upd H p (.dK (mergeK [] gs))) := TM.fresh hp
  exact ⟨.ref p, _, t, m.put (p := p) (o := .dK (foldW kvs [])) t (.inl hp) (by intro z; cases z) ⟨_, upd_same, (rr.merge .nil).mono t⟩, .ref p, q p _ (m.no hp) (LeM.new (m.no hp)) updM_same⟩
end
end G3

set_option Elab.async false
set_option linter.all false
set_option maxRecDepth 100000
set_option maxHeartbeats 4000000
set_option pp.maxSteps 1000
namespace G3
open PySem PySem.Spec L2
local macro_rules | `(tactic| walk_at "at") => `(tactic| with_reducible (repeat (first | exact At.here | apply At.there)))
local macro_rules | `(tactic| walk_at "vis") => `(tactic| first | exact Or.inl rfl | exact Or.inr (Or.inl rfl) | exact Or.inr (Or.inr rfl))
local macro_rules | `(tactic| walk_at "loc") => `(tactic| first | exact Or.inl rfl | exact Or.inr rfl)
local macro_rules | `(tactic| walk_at "as") => `(tactic| with_reducible assumption)
local macro_rules | `(tactic| walk_at "e") => `(tactic| first
  | ((with_reducible show G3.WE _ (.Name _ _) _ _ _); first | refine we_nm (by walk_at "as") (by walk_at "at") (by walk_at "vis") (by rfl) ?_ | refine we_tyn (by walk_at "as") (by rfl) (by walk_at "as") (by walk_at "as") ?_ | refine we_cls (C := He.ga _ _) (by walk_at "as") (by rfl) (by walk_at "as") ?_ | refine we_nmH (by walk_at "as") (by walk_at "at") (by walk_at "vis") (by rfl) ?_ | refine we_tynH (by walk_at "as") (by rfl) (by walk_at "as") (by walk_at "as") ?_ | refine we_clsH (C := He.ga _ _) (by walk_at "as") (by rfl) (by walk_at "as") ?_)
  | ((with_reducible show G3.WE _ (.Constant (.int _) _ _) _ _ _); refine we_int ?_)
  | ((with_reducible show G3.WE _ (.Subscript _ (.Slice _ _ (some _) _) _) _ _ _); refine we_rev ?_)
  | ((with_reducible show G3.WE _ (.Subscript _ (.Slice _ _ none _) _) _ _ _); refine we_slice ?_)
  | ((with_reducible show G3.WE _ (.Subscript _ _ _) _ _ _); refine we_ix ?_)
  | ((with_reducible show G3.WE _ (.BinOp _ _ _ _) _ _ _); refine we_op ?_)
  | ((with_reducible show G3.WE _ (.Call (.Name _ _) _ _ _) _ _ _); first
      | refine we_call (by walk_at "as") (by walk_at "as") (by decide) (by rfl) ?_
      | refine we_callB (by walk_at "as") (by rfl) (by walk_at "as") (by walk_at "as") ?_
      | refine we_callTy (by walk_at "as") (by rfl) (by walk_at "as") (by walk_at "as") ?_
      | refine we_callX (by walk_at "as") (by walk_at "as") (by walk_at "as") (by decide) (by rfl) (by walk_at "as") ?_
      | refine we_callBH (by walk_at "as") (by rfl) (by walk_at "as") (by walk_at "as") ?_)
  | ((with_reducible show G3.WE _ (.Attribute _ _ _) _ _ _); first | refine we_fld (by walk_at "as") ?_ | refine we_xfH (by walk_at "as") (by walk_at "as") (by walk_at "as") (by walk_at "as") ?_)
  | ((with_reducible show G3.WE _ (.Tuple _ _ _) _ _ _); refine we_tup ?_)
  | ((with_reducible show G3.WE _ (.List _ _) _ _ _); first | refine we_lstN ?_ | refine we_lst ?_)
  | ((with_reducible show G3.WE _ (.Compare _ [_] _ _) _ _ _); refine we_cmp ?_)
  | ((with_reducible show G3.WE _ (.Compare _ [_, _] _ _) _ _ _); refine we_chain ?_)
  | ((with_reducible show G3.WE _ (.UnaryOp .Not _ _) _ _ _); refine we_not ?_)
  | ((with_reducible show G3.WE _ (.UnaryOp _ _ _) _ _ _); refine we_un ?_)
  | ((with_reducible show G3.WE _ (.IfExp _ _ _ _) _ _ _); refine we_if ?_)
  | ((with_reducible show G3.WE _ (.Constant _ _ _) _ _ _); first | refine we_bl ?_ | refine we_non ?_ | refine we_str ?_)
  | ((with_reducible show G3.WE _ (.JoinedStr (_ :: _ :: _) _) _ _ _); refine we_joined ?_)
  | ((with_reducible show G3.WE _ (.FormattedValue _ _ _ _) _ _ _); refine we_fmt ?_)
  | ((with_reducible show G3.WE _ (.BoolOp _ [_] _) _ _ _); refine we_one ?_)
  | ((with_reducible show G3.WE _ (.BoolOp .And _ _) _ _ _); refine we_and ?_)
  | ((with_reducible show G3.WE _ (.BoolOp .Or _ _) _ _ _); refine we_or ?_))
local macro_rules | `(tactic| walk_at "t") => `(tactic| first
  | ((with_reducible show WT _ (.Compare _ [_] _ _) _ _ _); refine wt_cmp ?_)
  | ((with_reducible show WT _ (.Compare _ [_, _] _ _) _ _ _); refine wt_chain ?_)
  | ((with_reducible show WT _ (.UnaryOp .Not _ _) _ _ _); refine wt_not ?_)
  | ((with_reducible show WT _ (.BoolOp .And _ _) _ _ _); refine wt_w (ww_and ?_))
  | ((with_reducible show WT _ (.BoolOp .Or _ _) _ _ _); refine wt_w (ww_or ?_))
  | refine wt_truth ?_)
local macro_rules | `(tactic| walk_at "w") => `(tactic| first
  | ((with_reducible show WW _ (.BoolOp .And [_] _) _ _ _); refine ww_and1 ?_)
  | ((with_reducible show WW _ (.BoolOp .Or [_] _) _ _ _); refine ww_or1 ?_)
  | ((with_reducible show WW _ (.BoolOp .And _ _) _ _ _); refine ww_and ?_)
  | ((with_reducible show WW _ (.BoolOp .Or _ _) _ _ _); refine ww_or ?_))
local macro_rules | `(tactic| walk_at "st") => `(tactic| first
  | ((with_reducible show WS _ (.Assign [.Name _ _] (.ListComp _ _ _ _) _) _ _ _); fail)
  | ((with_reducible show WS _ (.Assign [.Name _ _] _ _) _ _ _); first | refine ws_set (by walk_at "as") (by walk_at "at") (by walk_at "loc") ?_ | refine ws_setH (by walk_at "as") (by walk_at "at") (by walk_at "loc") ?_)
  | ((with_reducible show WS _ (.Return (some _) _) _ _ _); refine ws_ret ?_)
  | ((with_reducible show WS _ (.If _ _ _ _) _ _ _); refine ws_if ?_)
  | ((with_reducible show WS _ (.Expr (.Call (.Attribute _ "append" _) _ _ _) _) _ _ _); refine ws_append ?_)
  | ((with_reducible show WS _ (.Expr (.Call (.Attribute _ "insert" _) _ _ _) _) _ _ _); refine ws_insert ?_)
  | ((with_reducible show WS _ (.Expr _ _) _ _ _); refine ws_expr ?_)
  | ((with_reducible show WS _ (.Assign [.Tuple _ _ _] (.Tuple _ _ _) _) _ _ _); first
      | refine ws_par2 (by walk_at "as") (by walk_at "at") (by walk_at "at") (by rfl) (by rfl) (by rfl) (by rfl) ?_
      | refine ws_asgT (by walk_at "as") (by rfl) ?_)
  | ((with_reducible show WS _ (.Raise (some _) none _) _ _ _); refine ws_raise (by walk_at "as") (by walk_at "as") ?_)
  | ((with_reducible show WS _ (.Assign [_] _ _) _ _ _); (fail_if_success (with_reducible show WS _ (.Assign [.Attribute _ _ _] _ _) _ _ _)); refine ws_asg ?_)
  | ((with_reducible show WS _ (.Return none _) _ _ _); refine ws_retN ?_)
  | ((with_reducible show WS _ (.Pass _) _ _ _); refine ws_pass ?_)
  | ((with_reducible show WS _ (.Break _) _ _ _); refine ws_break ?_)
  | ((with_reducible show WS _ (.Continue _) _ _ _); refine ws_continue ?_))
local macro_rules | `(tactic| walk_at "mul") => `(tactic| with_unfolding_all first
  | exact cml (by decide) (by decide)
  | exact cmr (by decide) (by decide)
  | exact cmw (by with_reducible assumption) (by with_reducible assumption) (by decide) (by decide) (by decide)
  | exact cml (by omega) (by omega)
  | exact cmr (by omega) (by omega))
local macro_rules | `(tactic| walk_at "o2") => `(tactic| with_reducible first
  | refine o2_add ?_
  | refine o2_sub ?_
  | refine o2_mul (by walk_at "mul") ?_
  | refine o2_lt ?_
  | refine o2_le ?_
  | refine o2_gt ?_
  | refine o2_ge ?_
  | refine o2_eqi ?_
  | refine o2_nei ?_
  | refine o2_eqb ?_
  | refine o2_neb ?_
  | refine o2_eqs ?_
  | refine o2_nes ?_
  | refine o2_isN ?_
  | refine o2_notN ?_)
local macro_rules | `(tactic| walk_at "x") => `(tactic| first
  | ((with_reducible show G3.WE _ _ _ _ _); walk_at "e")
  | ((with_reducible show WA _ _ _ _ _); first | refine wa_cons ?_ | refine wa_nil ?_)
  | ((with_reducible show WMk _ (.Call (.Name _ _) [] _ _) _ _ _); refine wmk_own0 (by walk_at "as") (by walk_at "as") (by decide) (by rfl) ?_)
  | ((with_reducible show WO _ _ _ _ _); first | (show G3.WE _ _ _ _ _))
  | ((with_reducible show WT _ _ _ _ _); walk_at "t")
  | ((with_reducible show G3.WJ _ _ _ _ _ _); first | refine wj_cons ?_ | refine wj_nil ?_)
  | ((with_reducible show G3.WK _ _ _ _ _); first | refine wk_cons ?_ | refine wk_nil ?_)
  | ((with_reducible show WW _ _ _ _ _); walk_at "w")
  | ((with_reducible show WS _ _ _ _ _); walk_at "st")
  | ((with_reducible show O2 _ _ _ _ _ _); walk_at "o2")
  | ((with_reducible show OI _ (.tup _) _ _ _); refine oi_tup rfl ?_)
  | ((with_reducible show OC _ _ _ _ _); with_reducible first | refine oc_abs ?_ | refine oc_int ?_ | refine oc_intb ?_ | refine oc_lenT ?_)
  | ((with_reducible show O1 _ _ _ _ _); refine o1_neg ?_)
  | ((with_reducible show BQ _ _ _); refine ⟨_, rfl, ?_⟩)
  | ((with_reducible show WG _ _ _ _ _ _); first | refine wg_name (by walk_at "as") (by walk_at "at") (by walk_at "loc") ?_ | refine wg_tup (by walk_at "as") ?_)
  | ((with_reducible show WGs _ _ _ _ _ _); first | refine wgs_cons (by walk_at "as") (by walk_at "at") (by walk_at "loc") ?_ | refine wgs_nil ?_))
local macro_rules | `(tactic| walk_at "s") => `(tactic| first
  | walk_at "x"
  | ((with_reducible show WSs _ _ _ _ _); first | refine wss_cons ?_ | refine wss_nil ?_))
theorem df_copyT {E : Ev} (hI : E.mg "isinstance" = none) (hD : E.mg "dict" = none) (hL : E.mg "list" = none) (T : Tx E "_law_copy" (top 15) ["_law_value"]) : E.df 1 "_law_copy" ["_law_value"] spCopyT := by
  have bI := bb_isi
  have bD := bb_dict
  have bL := bb_list
  refine T.df ["_law_value", "_law_one", "_law_name"] ⟨rfl, rfl, rfl, by decide +kernel, rfl, by decide +kernel, by decide +kernel⟩ (fun ws M Q ⟨_, e, _⟩ => by rw [e]; rfl) fun X B ws M Q ⟨us, e, q⟩ => ?_
  subst e
  show WSs X _ [some (.tup us), none, none] M _
  repeat (walk_at "s")
  refine oc_isi (.tup _) (b := false) (by decide +kernel) ?_
  refine ⟨_, .bl _, iteF ?_⟩
  repeat (walk_at "s")
  refine oc_isi (.tup _) (b := false) (by decide +kernel) ?_
  refine ⟨_, .bl _, iteF ?_⟩
  repeat (walk_at "s")
  exact ⟨M, LeM.refl, q⟩
theorem df_copyD {E : Ev} (hI : E.mg "isinstance" = none) (hD : E.mg "dict" = none) (hL : E.mg "list" = none) (D1 : E.df 1 "_law_copy" ["_law_value"] spCopyT) (T : Tx E "_law_copy" (top 15) ["_law_value"]) : E.df 2 "_law_copy" ["_law_value"] spCopyD := by
  have bI := bb_isi
  have bD := bb_dict
  have bL := bb_list
  refine T.df ["_law_value", "_law_one", "_law_name"] ⟨rfl, rfl, rfl, by decide +kernel, rfl, by decide +kernel, by decide +kernel⟩ (fun ws M Q ⟨_, _, e, _⟩ => by rw [e]; rfl) fun X B ws M Q ⟨d, tl, e, hd, nd, len, q⟩ => ?_
  subst e
  show WSs X _ [some (.ref d), none, none] M _
  repeat (walk_at "s")
  refine oc_isi (.dK hd) (b := false) (by decide +kernel) ?_
  refine ⟨_, .bl _, iteF ?_⟩
  repeat (walk_at "s")
  refine oc_isi (.dK hd) (b := true) (by decide +kernel) ?_
  refine ⟨_, .bl _, iteT ?_⟩
  repeat (walk_at "s")
  refine we_lcK1 B [("_law_name", 2)] (by decide +kernel) (pgI1 B (by walk_at "at") (by rfl)) ctg_name (p := d) (f := vla) (l := tl) hd (Nat.le_trans len (by decide)) (fun M0 R r => ?_) (fun z => .tup [.str z.1, vla z.2]) ?_ ?_
  · repeat (walk_at "s")
    exact r
  · intro z M1 hz k1
    refine ⟨_, rfl, fun Y BY => ?_⟩
    show WE Y _ [some (.ref d), none, some (.str z.1)] M1 _
    obtain ⟨us, eu⟩ := vla_tup z.2
    refine we_tup ?_
    repeat (walk_at "s")
    refine oi_dS BY k1.at_ (getS_of nd hz) ?_
    repeat (walk_at "s")
    refine ⟨us, by rw [eu], ?_⟩
    repeat (walk_at "s")
    refine ⟨by show 2 ≤ sizeLine; decide, ?_⟩
    exact ⟨by rw [eu], LeM.refl⟩
  intro D nD M1 l1 hD'
  repeat (walk_at "s")
  refine oc_dictP B.calm (kvs := dS vla tl) (by rw [hD', List.map_map]; rfl) fun p M2 np l2 hp => ?_
  rw [foldW_nd (by rw [List.nil_append, dS_keys]; exact List.Pairwise.map _ (fun a b hab z => hab (Sum.inr.inj z)) nd), List.nil_append] at hp
  exact ⟨M2, LeM.refl, q p M2 (l1.none np) (l1.trans l2) hp⟩
end G3

set_option Elab.async false
set_option linter.all false
set_option maxRecDepth 100000
set_option maxHeartbeats 4000000
/-! [a, b] != [c, d] where all are alike -/
namespace PySem.SeqAt
open PySem PySem.W PySem.Calls
open MeetsSeq MeetsSeq2 MeetsSeq3 SeqRoads2
section
variable {prog : Program} {w : World}
theorem g3_neLoop (l b : Addr) (xs ys : Array Value) (n n2 : Nat) (dd dd2 : Option Addr) (sl sl2 : Array (Option Value)) (hsz : xs.size = ys.size) : ∀ (k i : Nat), xs.size - i = k →
    MeetsIn prog w (Builtin.«list.__eq__.loop» ⟨[.ref l, .ref b, rawInt i, rawInt 3], []⟩)
      (fun A R s => s.heap.get? l = some { cls := .type "list", dict := dd, data := .seq xs n, slots := sl } ∧ s.heap.get? b = some { cls := .type "list", dict := dd2, data := .seq ys n2, slots := sl2 } ∧
        (∀ j (h1 : j < xs.size) (h2 : j < ys.size), EqP prog w A.in1 s xs[j] ys[j] true) ∧ R (.ok (.ret (.bool false))) s)
  | 0, i, hk, A, R, s, h => by
    obtain ⟨hp, g, d, tk, os⟩ := s
    obtain ⟨hl, hb, he, h⟩ := h
    wp_walk using wpAny_loadPart' hl, wpAny_loadPart' hb
    have i1 : xs[((i : Nat) : Int).toNat]? = none := by simp; omega
    have i2 : ys[((i : Nat) : Int).toNat]? = none := by simp; omega
    rw [i1, i2]
    wp_walk using wpAny_loadPart' hl, wpAny_loadPart' hb
    show R (.ok (.ret (.bool (xs.size != ys.size)))) _
    rw [hsz]
    simpa using h
  | k + 1, i, hk, A, R, s, h => by
    obtain ⟨hp, g, d, tk, os⟩ := s
    obtain ⟨hl, hb, he, h⟩ := h
    wp_walk using wpAny_loadPart' hl, wpAny_loadPart' hb
    have t1 : i < xs.size := by omega
    have t2 : i < ys.size := by omega
    have i1 : xs[((i : Nat) : Int).toNat]? = some xs[i] := by simp [t1]
    have i2 : ys[((i : Nat) : Int).toNat]? = some ys[i] := by simp [t2]
    have hc : ((i : Int) + 1) = ((i + 1 : Nat) : Int) := by push_cast; rfl
    rw [i1, i2]
    refine wpAny_bind (he i t1 t2 _ _ ?_)
    wp_walk
    rw [hc]
    exact ⟨plainId_quiet plain_eq_loop _, codeAny_builtin entry_eq_loop (by
      rw [Around.under_plainId plain_eq_loop _]
      exact g3_neLoop l b xs ys n n2 dd dd2 sl sl2 hsz k (i + 1) (by omega) A R _ ⟨hl, hb, he, h⟩)⟩
theorem g3_neAll (l b : Addr) (xs ys : Array Value) (n n2 : Nat) (dd dd2 : Option Addr) (sl sl2 : Array (Option Value)) (hsz : xs.size = ys.size) :
    MeetsIn prog w (Builtin.«list.__ne__» ⟨[.ref l, .ref b], []⟩)
      (fun A R s => s.heap.get? l = some { cls := .type "list", dict := dd, data := .seq xs n, slots := sl } ∧ s.heap.get? b = some { cls := .type "list", dict := dd2, data := .seq ys n2, slots := sl2 } ∧
        (∀ j (h1 : j < xs.size) (h2 : j < ys.size), EqP prog w A.in1 s xs[j] ys[j] true) ∧ R (.ok (.ret (.bool false))) s) := by
  intro A R s h
  obtain ⟨hp, g, d, tk, os⟩ := s
  obtain ⟨hl, hb, he, h⟩ := h
  have f3 := AutoSeq1.sub_list_list
  have hne : ¬ (xs.size != ys.size) = true := by simp [hsz]
  wp_walk using wpAny_loadPart' hl, wpAny_loadPart' hb
  exact ⟨plainId_quiet plain_eq_loop _, codeAny_builtin entry_eq_loop (by
    rw [Around.under_plainId plain_eq_loop _]
    exact g3_neLoop l b xs ys n n2 dd dd2 sl sl2 hsz _ 0 rfl A R _ ⟨hl, hb, he, h⟩)⟩
theorem g3_neLists {A : Around} {s : Shared} {l b : Addr} {xs ys : Array Value} (hl : s.heap.IsList l xs) (hb : s.heap.IsList b ys) (hsz : xs.size = ys.size) (hu : A.units < cLine)
    (he : ∀ j (h1 : j < xs.size) (h2 : j < ys.size), EqP prog w A.in1 s xs[j] ys[j] true) (E Q : Value → Shared → Prop) (h : Q (.bool false) s) : wpAny (model prog w) A (richCompare .NotEq (.ref l) (.ref b)) Q E s := by
  obtain ⟨⟨c1, dd, d1, sl⟩, ho, hc, n, hd⟩ := id hl
  obtain ⟨⟨c2, dd2, d2, sl2⟩, ho2, hc2, n2, hd2⟩ := id hb
  simp only at hc hd hc2 hd2
  subst hc hd hc2 hd2
  have ta : s.TypeIs (.ref l) "list" := ⟨_, ho, rfl⟩
  have tb : s.TypeIs (.ref b) "list" := ⟨_, ho2, rfl⟩
  exact wpAny_richCompare_same_room (op := .NotEq) ta tb F.slot_list_ne (call_meetsIn F.slot_list_ne ta F.entry_list_ne (F.args_list_ne_2 _ _) (g3_neAll l b xs ys n n2 dd dd2 sl sl2 hsz)
    ⟨ho, ho2, he, show Value.bool false ≠ Value.notImplemented ∧ Q (.bool false) s from ⟨(fun x => nomatch x), h⟩⟩) hu
end
end PySem.SeqAt
namespace G3
open PySem PySem.Spec L2 PySem.W
/-- [a, b] != [c, d], dicts alike -/
theorem o2_neTwo {X : Cx} {M : Mp} {Q : VQ} {u v : VV} {a b c d : Addr} {n : Nat} {k1 k2 : List (Key × VV)} (hu : X.A.units + 3 + n < cLine) (h1 : Lst M u [.ref a, .ref b]) (h2 : Lst M v [.ref c, .ref d]) (ha : M a = some (.dK k1)) (hb : M b = some (.dK k2)) (hc : M c = some (.dK k1)) (hd : M d = some (.dK k2)) (ac : a ≠ c) (bd : b ≠ d)
    (d1 : Dat M n k1) (d2 : Dat M n k2) (q : Q (.bl false) M) : O2 X (compareOp .NotEq) u v M Q := fun H v1 u1 m r1 r2 pins s σ w1 w2 I z1 z2 => by
  obtain ⟨p1, vs1, rfl, g1, t1⟩ := h1.v m r1
  obtain ⟨p2, vs2, rfl, g2, t2⟩ := h2.v m r2
  cases z1; cases z2
  cases t1 with | cons x1 t1 =>
  cases t1 with | cons x2 t1 =>
  cases t1
  cases t2 with | cons y1 t2 =>
  cases t2 with | cons y2 t2 =>
  cases t2
  cases x1; cases x2; cases y1; cases y2
  obtain ⟨us, ru, pu, _⟩ := I.list g1
  obtain ⟨ws, rw, pw, _⟩ := I.list g2
  cases ru with | cons a1 ru =>
  cases ru with | cons a2 ru =>
  cases ru
  cases rw with | cons b1 rw =>
  cases rw with | cons b2 rw =>
  cases rw
  cases a1; cases a2; cases b1; cases b2
  refine SeqAt.g3_neLists pu.isList pw.isList rfl (by omega) (fun j h1 h2 => ?_) _ _ ?_
  · have hj : j < 2 := h1
    rcases (show j = 0 ∨ j = 1 by omega) with rfl | rfl
    · exact SeqAt.eqP_refs ac fun E Q q => datS_run I m (A := X.A.in1) (by show X.A.units + 1 + 1 + n < _; omega) ha hc d1 E Q q
    · exact SeqAt.eqP_refs bd fun E Q q => datS_run I m (A := X.A.in1) (by show X.A.units + 1 + 1 + n < _; omega) hb hd d2 E Q q
  · exact ⟨.bl false, H, I, rfl, .mk m (.bl _) q⟩
end G3

set_option Elab.async false
set_option linter.all false
set_option maxRecDepth 100000
set_option maxHeartbeats 4000000
/-! t[a:b] and s + t of texts; {k: v} laid anew -/
namespace G3
open PySem L2
section
variable {X : Cx} {a b c e tg : Expr} {es : List Expr} {σ : St3} {M : Mp} {Q : VQ} {D : En} {pos : Pos}
theorem we_sliceS {lo hi : Option Expr} {p2 : Pos} (h : WE X e σ M fun u M1 => WO X lo σ M1 fun l M2 => WO X hi σ M2 fun r M3 => ∃ z, u = .str z ∧ z.length ≤ sizeLine ∧ Q (.str (cutS z l r)) M3) : WE X (.Subscript e (.Slice lo hi none p2) pos) σ M Q := fun σ' H s m => by
  have po : ∀ (o : Option Expr), ∃ t : TO, PO X o t ∧ ∀ {σ' : St} {H : Hp} {M : Mp} {R : Option Int → Mp → Prop} {Z : Option Int → Hp → Prop}, Slots X.K H σ' σ → SimM X.K M H → WO X o σ M R → (∀ i H1 M1, TM H H1 → SimM X.K M1 H1 → Slots X.K H1 σ' σ → R i M1 → Z i H1) → t σ' H Z := fun o => by
    cases o with
    | none => exact ⟨tNoPart, po_none, fun s m h z => z _ _ _ TM.refl m s h⟩
    | some e => exact ⟨_, po_some wE.pe, fun {σ' H M R Z} s m h z => (show WE X e σ M _ from h).run s m fun v H1 u M1 t1 m1 r1 s1 ⟨i, e, q⟩ => by subst e; cases r1; exact ⟨i, rfl, z _ _ _ t1 m1 s1 q⟩⟩
  obtain ⟨t1, p1, k1⟩ := po lo
  obtain ⟨t2, p2', k2⟩ := po hi
  refine wE.of (pe_slice sl_str wE.pe p1 p2') (h.run s m fun v H1 u M1 tm1 m1 r1 s1 q1 => k1 s1 m1 q1 fun l H2 M2 tm2 m2 s2 q2 => k2 s2 m2 q2 fun r H3 M3 tm3 m3 s3 q3 => ?_)
  obtain ⟨z, hu, hz, q⟩ := q3
  subst hu
  cases r1
  exact ⟨z, rfl, hz, .str (cutS z l r), M3, (tm1.trans tm2).trans tm3, m3, .str _, q⟩
theorem cutS_len (z : Str) (lo hi : Option Int) : (cutS z lo hi).length ≤ z.length := by
  show (List.toArray _).size ≤ z.cps.size
  rw [List.size_toArray, List.length_take, List.length_drop, Array.length_toList]
  omega
theorem we_dict1N {ke ve : Expr} (q : ∀ p M1, M p = none → LeM M M1 → M1 p = some (.dK []) → WE X ke σ M1 fun y M2 => WE X ve σ M2 fun z M3 => M3 p = some (.dK []) ∧ ∃ k, y = kW k ∧ ∀ M4, (∀ a o, a ≠ p → M3 a = some o → M4 a = some o) → M4 p = some (.dK [(k, z)]) → Q (.ref p) M4) : WE X (.Dict [some ke] [ve] pos) σ M Q :=
  we_dict1 fun p np => (q p _ np (LeM.new np) updM_same).mono fun y M2 h2 => h2.mono fun z M3 ⟨e3, k, ek, q3⟩ => ⟨e3, k, ek, q3 _ (fun a o ha e => by rw [updM_ne ha]; exact e) updM_same⟩
end
end G3

set_option Elab.async false
set_option linter.all false
set_option maxRecDepth 100000
set_option maxHeartbeats 4000000
/-! xs.reverse(); != of dicts -/
namespace G3
open PySem L2
section
variable {X : Cx} {o e : Expr} {σ : St3} {M : Mp} {Q : VQ} {pos : Pos}
theorem we_lrev {apos cpos : Pos} (h : WE X o σ M fun u M1 => ∃ p ws, u = .ref p ∧ M1 p = some (.lst ws) ∧ Q .non (updM M1 p (.lst ws.reverse)))
    (hbase : attributeBase o "reverse" X.env (eval o X.env) = eval o X.env := by rfl) (hline : (apos.endLine == cpos.line) = true := by rfl) : WE X (.Call (.Attribute o "reverse" apos) [] [] cpos) σ M Q := fun σ' H s m =>
  wE.of (pe_bm0 PySem.F.plainAttrs_list PySem.F.slot_list_reverse PySem.F.type_list_reverse mt_reverse wE.pe hbase hline) (h.run s m fun v H1 l M1 t1 m1 r1 s1 ⟨p, ws, e1, e2, q⟩ => by
    subst e1; cases r1
    obtain ⟨vs, h0, rv⟩ := m1 _ _ e2
    have rev : ∀ {xs : List V} {us : List VV}, Rvs X.K H1 xs us → Rvs X.K H1 xs.reverse us.reverse := fun {xs us} h => by
      induction xs generalizing us with
      | nil => cases h; exact .nil
      | cons x xs ih => cases h with | cons a b => rw [List.reverse_cons, List.reverse_cons]; exact (ih b).append (.cons a .nil)
    have t := TM.lst (o := .lst vs.reverse) h0
    exact ⟨.inl ⟨rfl, vs, SqL.of h0⟩, p, vs, rfl, rfl, h0, .non, _, t1.trans t, m1.putL t (.inr ⟨_, e2⟩) (rev rv), .non, q⟩)
end
section
variable {β : Type} [DecidableEq β] [PySem.W.Datum β]
open PySem.W
theorem dic_hitsA {X : Cx} {M : Mp} {H : Hp} {s : Shared} {pins : List (Addr × Obj)} {σ : L2.St} {A : Around} {f : β → VV} {l2 : List (Key × β)} {ls : List (Key × V)} {vb : List (Key × Value)} (I : Inv X pins σ H s) (m : SimM X.K M H) (hu : A.units + Datum.depth β < cLine) (hd : ∀ v, DW M (f v) (Datum.toD v))
    (rl : Rkv X.K H ls (dG f l2)) (rb : KV ls vb) : ∀ (l : List (Key × β)) (ks : List (Key × V)) (va : List (Key × Value)), KV ks va → Rkv X.K H ks (dG f l) → KeqHits A s vb va (l.all fun p => decide (lookB l2 p.1 = some p.2))
  | [], ks, va, ra, rk => by
    cases rk
    unfold KV at ra
    cases ra
    exact .nil
  | (k, b) :: l, ks, va, ra, rk => by
    cases rk with
    | @cons _ v _ ks' _ hv rk' =>
      unfold KV at ra
      cases ra with
      | @cons _ q _ va' hq ra' =>
        obtain ⟨k', u⟩ := q
        obtain ⟨e1, ru⟩ := hq
        have e1 : k = k' := e1
        subst e1
        have ih := dic_hitsA I m hu hd rl rb l ks' va' ra' rk'
        have rr := rb.val k
        have lk := rl.val k
        rw [dG_look] at lk
        cases hl : lookB l2 k with
        | none =>
          rw [hl] at lk
          rw [lk.2 rfl] at rr
          have en : valueAt vb k = none := by
            cases h : valueAt vb k with
            | none => rfl
            | some z => rw [h] at rr; exact (show False from rr).elim
          have : (((k, b) :: l).all fun p => decide (lookB l2 p.1 = some p.2)) = false := by
            rw [List.all_cons, hl]; rfl
          rw [this]
          exact .miss en
        | some b2 =>
          rw [hl] at lk
          obtain ⟨z, ez, rz⟩ := lk.1 _ rfl
          rw [ez] at rr
          obtain ⟨y, hy, ry⟩ := rr.some_of
          obtain ⟨as, r1⟩ := Dp.reads I _ _ _ ((hd b).dp m _ _ _ hv) ru
          obtain ⟨bs, r2⟩ := Dp.reads I _ _ _ ((hd b2).dp m _ _ _ rz) ry
          have eq := (SeqAt.eqAt_plain _ _ A s _ _ _ _ r1 r2 (Datum.plain b) (Datum.plain b2) (by
            have := Datum.depth_le b
            omega))
          rw [Datum.eqv] at eq
          have : (((k, b) :: l).all fun p => decide (lookB l2 p.1 = some p.2)) = (decide (b = b2) && l.all fun p => decide (lookB l2 p.1 = some p.2)) := by
            rw [List.all_cons, hl]
            congr 1
            rw [decide_eq_decide]
            exact ⟨fun h => (Option.some.inj h).symm, fun h => by rw [h]⟩
          rw [this]
          exact .hit hy eq ih
theorem o2_neDic {X : Cx} {M : Mp} {Q : VQ} {a b : Addr} {f : β → VV} {l1 l2 : List (Key × β)} (hu : X.A.units + 1 + Datum.depth β < cLine) (ha : M a = some (.dK (dG f l1))) (hb : M b = some (.dK (dG f l2))) (hd : ∀ v, DW M (f v) (Datum.toD v)) (q : Q (.bl (!eqDF l1 l2)) M) : O2 X (compareOp .NotEq) (.ref a) (.ref b) M Q := fun H v u m r1 r2 pins s σ v1 u1 I z1 z2 => by
  cases r1; cases r2; cases z1; cases z2
  obtain ⟨ks, ha, rk⟩ := m _ _ ha
  obtain ⟨ls, hb, rl⟩ := m _ _ hb
  obtain ⟨_, ya, va, ra, da⟩ := (show ObjOk X.prog X.w H s.heap a (.dK ks) from I.hok a _ ha)
  obtain ⟨_, yb, vb, rb, db⟩ := (show ObjOk X.prog X.w H s.heap b (.dK ls) from I.hok b _ hb)
  have e1 : va.length = l1.length := by rw [← ra.length, rk.len, List.length_map]
  have e2 : vb.length = l2.length := by rw [← rb.length, rl.len, List.length_map]
  refine PySem.W.keq_ne (knd := mixKind X.prog X.w) (r := l1.all fun p => decide (lookB l2 p.1 = some p.2)) ya yb da db (by omega) (fun _ => dic_hitsA I m (A := X.A.in1) (by show X.A.units + 1 + _ < _; omega) hd rl rb l1 ks va ra rk) ?_
  have : (!(va.length == vb.length && l1.all fun p => decide (lookB l2 p.1 = some p.2))) = !eqDF l1 l2 := by
    rw [e1, e2]; rfl
  rw [this]
  exact ⟨.bl _, H, I, rfl, .mk m (.bl _) q⟩
end
end G3
namespace G3
theorem ixN_j {n j : Nat} (hj : j < n) : L2.ixN n (j : Int) = some j := by
  unfold L2.ixN
  rw [if_pos (by omega), if_pos (by omega)]
  simp
end G3

set_option Elab.async false
set_option linter.all false
set_option maxRecDepth 100000
set_option maxHeartbeats 4000000
set_option pp.maxSteps 1000
namespace G3
open PySem PySem.Spec L2
local macro_rules | `(tactic| walk_at "at") => `(tactic| with_reducible (repeat (first | exact At.here | apply At.there)))
local macro_rules | `(tactic| walk_at "vis") => `(tactic| first | exact Or.inl rfl | exact Or.inr (Or.inl rfl) | exact Or.inr (Or.inr rfl))
local macro_rules | `(tactic| walk_at "loc") => `(tactic| first | exact Or.inl rfl | exact Or.inr rfl)
local macro_rules | `(tactic| walk_at "as") => `(tactic| with_reducible assumption)
local macro_rules | `(tactic| walk_at "e") => `(tactic| first
  | ((with_reducible show G3.WE _ (.Name _ _) _ _ _); first | refine we_nm (by walk_at "as") (by walk_at "at") (by walk_at "vis") (by rfl) ?_ | refine we_tyn (by walk_at "as") (by rfl) (by walk_at "as") (by walk_at "as") ?_ | refine we_cls (C := He.ga _ _) (by walk_at "as") (by rfl) (by walk_at "as") ?_ | refine we_nmH (by walk_at "as") (by walk_at "at") (by walk_at "vis") (by rfl) ?_ | refine we_tynH (by walk_at "as") (by rfl) (by walk_at "as") (by walk_at "as") ?_ | refine we_clsH (C := He.ga _ _) (by walk_at "as") (by rfl) (by walk_at "as") ?_)
  | ((with_reducible show G3.WE _ (.Constant (.int _) _ _) _ _ _); refine we_int ?_)
  | ((with_reducible show G3.WE _ (.Subscript _ (.Slice _ _ (some _) _) _) _ _ _); refine we_rev ?_)
  | ((with_reducible show G3.WE _ (.Subscript _ (.Slice _ _ none _) _) _ _ _); refine we_slice ?_)
  | ((with_reducible show G3.WE _ (.Subscript _ _ _) _ _ _); refine we_ix ?_)
  | ((with_reducible show G3.WE _ (.BinOp _ _ _ _) _ _ _); refine we_op ?_)
  | ((with_reducible show G3.WE _ (.Call (.Name _ _) _ _ _) _ _ _); first
      | refine we_call (by walk_at "as") (by walk_at "as") (by decide) (by rfl) ?_
      | refine we_callB (by walk_at "as") (by rfl) (by walk_at "as") (by walk_at "as") ?_
      | refine we_callTy (by walk_at "as") (by rfl) (by walk_at "as") (by walk_at "as") ?_
      | refine we_callX (by walk_at "as") (by walk_at "as") (by walk_at "as") (by decide) (by rfl) (by walk_at "as") ?_
      | refine we_callBH (by walk_at "as") (by rfl) (by walk_at "as") (by walk_at "as") ?_)
  | ((with_reducible show G3.WE _ (.Attribute _ _ _) _ _ _); first | refine we_fld (by walk_at "as") ?_ | refine we_xfH (by walk_at "as") (by walk_at "as") (by walk_at "as") (by walk_at "as") ?_)
  | ((with_reducible show G3.WE _ (.Tuple _ _ _) _ _ _); refine we_tup ?_)
  | ((with_reducible show G3.WE _ (.List _ _) _ _ _); first | refine we_lstN ?_ | refine we_lst ?_)
  | ((with_reducible show G3.WE _ (.Compare _ [_] _ _) _ _ _); refine we_cmp ?_)
  | ((with_reducible show G3.WE _ (.Compare _ [_, _] _ _) _ _ _); refine we_chain ?_)
  | ((with_reducible show G3.WE _ (.UnaryOp .Not _ _) _ _ _); refine we_not ?_)
  | ((with_reducible show G3.WE _ (.UnaryOp _ _ _) _ _ _); refine we_un ?_)
  | ((with_reducible show G3.WE _ (.IfExp _ _ _ _) _ _ _); refine we_if ?_)
  | ((with_reducible show G3.WE _ (.Constant _ _ _) _ _ _); first | refine we_bl ?_ | refine we_non ?_ | refine we_str ?_)
  | ((with_reducible show G3.WE _ (.JoinedStr (_ :: _ :: _) _) _ _ _); refine we_joined ?_)
  | ((with_reducible show G3.WE _ (.FormattedValue _ _ _ _) _ _ _); refine we_fmt ?_)
  | ((with_reducible show G3.WE _ (.BoolOp _ [_] _) _ _ _); refine we_one ?_)
  | ((with_reducible show G3.WE _ (.BoolOp .And _ _) _ _ _); refine we_and ?_)
  | ((with_reducible show G3.WE _ (.BoolOp .Or _ _) _ _ _); refine we_or ?_))
local macro_rules | `(tactic| walk_at "t") => `(tactic| first
  | ((with_reducible show WT _ (.Compare _ [_] _ _) _ _ _); refine wt_cmp ?_)
  | ((with_reducible show WT _ (.Compare _ [_, _] _ _) _ _ _); refine wt_chain ?_)
  | ((with_reducible show WT _ (.UnaryOp .Not _ _) _ _ _); refine wt_not ?_)
  | ((with_reducible show WT _ (.BoolOp .And _ _) _ _ _); refine wt_w (ww_and ?_))
  | ((with_reducible show WT _ (.BoolOp .Or _ _) _ _ _); refine wt_w (ww_or ?_))
  | refine wt_truth ?_)
local macro_rules | `(tactic| walk_at "w") => `(tactic| first
  | ((with_reducible show WW _ (.BoolOp .And [_] _) _ _ _); refine ww_and1 ?_)
  | ((with_reducible show WW _ (.BoolOp .Or [_] _) _ _ _); refine ww_or1 ?_)
  | ((with_reducible show WW _ (.BoolOp .And _ _) _ _ _); refine ww_and ?_)
  | ((with_reducible show WW _ (.BoolOp .Or _ _) _ _ _); refine ww_or ?_))
local macro_rules | `(tactic| walk_at "st") => `(tactic| first
  | ((with_reducible show WS _ (.Assign [.Name _ _] (.ListComp _ _ _ _) _) _ _ _); fail)
  | ((with_reducible show WS _ (.Assign [.Name _ _] _ _) _ _ _); first | refine ws_set (by walk_at "as") (by walk_at "at") (by walk_at "loc") ?_ | refine ws_setH (by walk_at "as") (by walk_at "at") (by walk_at "loc") ?_)
  | ((with_reducible show WS _ (.Return (some _) _) _ _ _); refine ws_ret ?_)
  | ((with_reducible show WS _ (.If _ _ _ _) _ _ _); refine ws_if ?_)
  | ((with_reducible show WS _ (.Expr (.Call (.Attribute _ "append" _) _ _ _) _) _ _ _); refine ws_append ?_)
  | ((with_reducible show WS _ (.Expr (.Call (.Attribute _ "insert" _) _ _ _) _) _ _ _); refine ws_insert ?_)
  | ((with_reducible show WS _ (.Expr _ _) _ _ _); refine ws_expr ?_)
  | ((with_reducible show WS _ (.Assign [.Tuple _ _ _] (.Tuple _ _ _) _) _ _ _); first
      | refine ws_par2 (by walk_at "as") (by walk_at "at") (by walk_at "at") (by rfl) (by rfl) (by rfl) (by rfl) ?_
      | refine ws_asgT (by walk_at "as") (by rfl) ?_)
  | ((with_reducible show WS _ (.Raise (some _) none _) _ _ _); refine ws_raise (by walk_at "as") (by walk_at "as") ?_)
  | ((with_reducible show WS _ (.Assign [_] _ _) _ _ _); (fail_if_success (with_reducible show WS _ (.Assign [.Attribute _ _ _] _ _) _ _ _)); refine ws_asg ?_)
  | ((with_reducible show WS _ (.Return none _) _ _ _); refine ws_retN ?_)
  | ((with_reducible show WS _ (.Pass _) _ _ _); refine ws_pass ?_)
  | ((with_reducible show WS _ (.Break _) _ _ _); refine ws_break ?_)
  | ((with_reducible show WS _ (.Continue _) _ _ _); refine ws_continue ?_))
local macro_rules | `(tactic| walk_at "mul") => `(tactic| with_unfolding_all first
  | exact cml (by decide) (by decide)
  | exact cmr (by decide) (by decide)
  | exact cmw (by with_reducible assumption) (by with_reducible assumption) (by decide) (by decide) (by decide)
  | exact cml (by omega) (by omega)
  | exact cmr (by omega) (by omega))
local macro_rules | `(tactic| walk_at "o2") => `(tactic| with_reducible first
  | refine o2_add ?_
  | refine o2_sub ?_
  | refine o2_mul (by walk_at "mul") ?_
  | refine o2_lt ?_
  | refine o2_le ?_
  | refine o2_gt ?_
  | refine o2_ge ?_
  | refine o2_eqi ?_
  | refine o2_nei ?_
  | refine o2_eqb ?_
  | refine o2_neb ?_
  | refine o2_eqs ?_
  | refine o2_nes ?_
  | refine o2_isN ?_
  | refine o2_notN ?_)
local macro_rules | `(tactic| walk_at "x") => `(tactic| first
  | ((with_reducible show G3.WE _ _ _ _ _); walk_at "e")
  | ((with_reducible show WA _ _ _ _ _); first | refine wa_cons ?_ | refine wa_nil ?_)
  | ((with_reducible show WMk _ (.Call (.Name _ _) [] _ _) _ _ _); refine wmk_own0 (by walk_at "as") (by walk_at "as") (by decide) (by rfl) ?_)
  | ((with_reducible show WO _ _ _ _ _); first | (show G3.WE _ _ _ _ _))
  | ((with_reducible show WT _ _ _ _ _); walk_at "t")
  | ((with_reducible show G3.WJ _ _ _ _ _ _); first | refine wj_cons ?_ | refine wj_nil ?_)
  | ((with_reducible show G3.WK _ _ _ _ _); first | refine wk_cons ?_ | refine wk_nil ?_)
  | ((with_reducible show WW _ _ _ _ _); walk_at "w")
  | ((with_reducible show WS _ _ _ _ _); walk_at "st")
  | ((with_reducible show O2 _ _ _ _ _ _); walk_at "o2")
  | ((with_reducible show OI _ (.tup _) _ _ _); refine oi_tup rfl ?_)
  | ((with_reducible show OC _ _ _ _ _); with_reducible first | refine oc_abs ?_ | refine oc_int ?_ | refine oc_intb ?_ | refine oc_lenT ?_)
  | ((with_reducible show O1 _ _ _ _ _); refine o1_neg ?_)
  | ((with_reducible show BQ _ _ _); refine ⟨_, rfl, ?_⟩)
  | ((with_reducible show WG _ _ _ _ _ _); first | refine wg_name (by walk_at "as") (by walk_at "at") (by walk_at "loc") ?_ | refine wg_tup (by walk_at "as") ?_)
  | ((with_reducible show WGs _ _ _ _ _ _); first | refine wgs_cons (by walk_at "as") (by walk_at "at") (by walk_at "loc") ?_ | refine wgs_nil ?_))
local macro_rules | `(tactic| walk_at "s") => `(tactic| first
  | walk_at "x"
  | ((with_reducible show WSs _ _ _ _ _); first | refine wss_cons ?_ | refine wss_nil ?_))
theorem df_bent {E : Ev} (hD : E.mg "dict" = none) (hL : E.mg "list" = none) (hS : E.mg "sorted" = none) (D1 : E.df 1 "_law_pull" ["_law_draw", "_law_top"] spDraw) (D2 : E.df 2 "_law_any" ["_law_draw", "_law_some"] spAny) (D3 : E.df 1 "_law_room" ["_law_pair", "_law_name", "_law_tall_by", "_law_corner"] spRoom) (T : Tx E "_law_bent_told" (top 23) ["_law_draw", "_law_told", "_law_sites"]) : E.df 3 "_law_bent_told" ["_law_draw", "_law_told", "_law_sites"] spBent := by
  have bD := bb_dict
  have bL := bb_list
  have bS : bootBuiltins "sorted" = some (.builtin "sorted") := by decide +kernel
  refine T.df ["_law_draw", "_law_told", "_law_sites", "_law_found", "_law_names_here", "_law_name", "_law_other", "_law_row", "_law_way_now", "_law_corner", "_law_bars"] ⟨rfl, rfl, rfl, by decide +kernel, rfl, by decide +kernel, by decide +kernel⟩ (fun ws M Q ⟨_, _, _, _, _, e, _⟩ => by rw [e]; rfl) fun X B ws M Q ⟨b, d, s, tl, l, e, hb, hd, tk, t4, nd, len, hs, sub, nm, q⟩ => ?_
  subst e
  have hu : X.A.units + 65 < cLine := by have := B.room.un; omega
  show WSs X _ [some (.ref b), some (.ref d), some (.ref s), none, none, none, none, none, none, none, none] M _
  repeat (walk_at "s")
  refine oc_dictDN (.inl hd) fun F M1 nF l1 hF => ?_
  repeat (walk_at "s")
  refine oc_sortSN B.calm (.inl hF) (by omega) fun L M2 nL l2 hL' => ?_
  repeat (walk_at "s")
  refine ⟨by show 0 ≤ sizeLine; decide, fun Z M3 nZ l3 hZ => ?_⟩
  have hL3 := l3 _ _ hL'
  refine o2_eqT (α := List Str) (x := srt (tl.map (·.1))) (y := []) (Nat.lt_of_le_of_lt (Nat.add_le_add_left (by decide : _ ≤ 64) _) (show X.A.units + 64 < cLine by omega)) (dw_lst (v := VV.str) (fun x => .str x) (.ref hL3)) (.lst (.ref hZ) .nil) ?_
  have hF3 := l3 _ _ (l2 _ _ hF)
  have l03 := l1.trans (l2.trans l3)
  have l13 := l2.trans l3
  clear hZ nZ l3 hL' nL l2 hF
  refine ⟨_, rfl, ite_dec (fun h0 => ?_) (fun h0 => ?_)⟩
  · refine wss_cons ?_
    refine ws_ret ?_
    refine we_dict1N ?_
    intro p M4 np l4 hp
    repeat (walk_at "s")
    refine ⟨by show 4 ≤ sizeLine; decide, ?_⟩
    repeat (walk_at "s")
    refine ⟨by show 3 ≤ sizeLine; decide, hp, .inr (Str.ofString "a"), rfl, fun M5 l5 hp5 => ?_⟩
    have l45 : LeM M3 M5 := fun a o e => l5 a o (fun z => by subst z; rw [e] at np; cases np) (l4 a o e)
    exact ⟨M5, LeM.refl, q p [(Str.ofString "a", ((0 : Addr), Lt.laid 0 (0, 0, 1, 1)))] M5 (l03.none np) (l03.trans l45) hp5 (fun x hx bs e => by rw [List.mem_singleton.mp hx] at e; cases e) (fun x hx bs e => by rw [List.mem_singleton.mp hx] at e; cases e) (List.nodup_cons.mpr ⟨List.not_mem_nil, List.nodup_nil⟩) (Nat.le_add_left _ _)⟩
  have lpos : 0 < (srt (tl.map (·.1))).length := List.length_pos_iff.mpr h0
  have llen : (srt (tl.map (·.1))).length ≤ 40 := by rw [srt_len, List.length_map]; exact len
  have pick : ∀ n ∈ srt (tl.map (·.1)), n ∈ tl.map (·.1) := fun n hn => srt_mem.mp hn
  repeat (walk_at "s")
  refine ⟨b, .ref L, _, rfl, l03 _ _ hb, .ref hL3, by rw [List.length_map]; exact lpos, by rw [List.length_map]; omega, fun x hx => ?_⟩
  obtain ⟨n, hn, rfl⟩ := List.mem_map.mp hx
  have hn := pick n hn
  repeat (walk_at "s")
  refine ⟨b, .ref L, _, rfl, l03 _ _ hb, .ref hL3, by rw [List.length_map]; exact lpos, by rw [List.length_map]; omega, fun x hx => ?_⟩
  obtain ⟨n2, hn2, rfl⟩ := List.mem_map.mp hx
  have hn2 := pick n2 hn2
  repeat (walk_at "s")
  refine ⟨_, _, rfl, ?_⟩
  repeat (walk_at "s")
  obtain ⟨w0, hw0⟩ := Option.isSome_iff_exists.mp (getS_isSome.mpr hn)
  refine oi_dS B (f := vla) (.inl hF3) hw0 ?_
  have hb3 := l03 _ _ hb
  have tk3 := tk.le l03
  have tl1 : (dS vla tl).length < sizeLine := by rw [List.length_map]; exact Nat.lt_of_le_of_lt len (by decide)
  have qp : ∀ (k : Str) (w : LA) (M4 : Mp), LeM M3 M4 → (∀ bs, w.2 = .barred bs → M4 w.1 = some (.lst (bs.map vbar)) ∧ bs.length = 4) → Q (.ref F) (updM M4 F (.dK (dS vla (putS tl k w)))) := fun k w M4 l4 hw =>
    q F _ _ nF ((l03.trans l4).put nF) updM_same (((tk3.le l4).put fun bs e => (hw bs e).1).upd (l4 _ _ hF3)) (t4.put fun bs e => (hw bs e).2) (putS_nodup nd) (putS_len tl k w)
  show WSs X _ [some (.ref b), some (.ref d), some (.ref s), some (.ref F), some (.ref L), some (.str n), some (.str n2), some (vla w0), none, none, none] M3 _
  repeat (walk_at "s")
  refine ⟨b, _, rfl, hb3, by decide, by decide, fun kd k0 k1 => ?_⟩
  repeat (walk_at "s")
  refine ite_dec (fun c0 => ?_) (fun c0 => ?_)
  · repeat (walk_at "s")
    refine we_dpop ?_
    repeat (walk_at "s")
    refine ⟨F, _, rfl, hF3, ?_⟩
    repeat (walk_at "s")
    refine ⟨_, .inr n, vla w0, hF3, rfl, by rw [dS_look, hw0]; rfl, ?_⟩
    rw [lessL_is]
    repeat (walk_at "s")
    exact ⟨_, LeM.refl, q F _ _ nF (l03.put nF) updM_same (TOk.upd (fun p hp => tk3 p (List.mem_filter.mp hp).1) hF3) (fun p hp => t4 p (List.mem_filter.mp hp).1) (nd.sublist (List.filter_sublist.map _)) (Nat.le_succ_of_le (List.length_filter_le _ _))⟩
  · repeat (walk_at "s")
    refine ite_dec (fun c1 => ?_) (fun c1 => ?_)
    · obtain ⟨w1, hw1⟩ := Option.isSome_iff_exists.mp (getS_isSome.mpr hn2)
      have get4 : ∀ (m : Str) (w : LA), getS tl m = some w → ∀ bs, w.2 = .barred bs → M3 w.1 = some (.lst (bs.map vbar)) ∧ bs.length = 4 := fun m w e bs eb => ⟨tk3 _ (getS_mem e) bs eb, t4 _ (getS_mem e) bs eb⟩
      refine wss_cons ?_
      refine ws_asgT B (by rfl) ?_
      repeat (walk_at "s")
      refine oi_dS B (f := vla) (.inl hF3) hw1 ?_
      repeat (walk_at "s")
      refine oi_dS B (f := vla) (.inl hF3) hw0 ?_
      repeat (walk_at "s")
      refine ⟨by show 2 ≤ sizeLine; decide, ?_⟩
      refine wg_tup B ?_
      refine wgs_any ?_
      refine wg_sub ?_
      repeat (walk_at "s")
      refine oset_dK B (.inr n) hF3 tl1 ?_
      rw [dS_put]
      have hF4 : updM M3 F (.dK (dS vla (putS tl n w1))) F = _ := updM_same
      have tk4 : TOk (updM M3 F (.dK (dS vla (putS tl n w1)))) (putS tl n w1) := (tk3.put fun bs e => (get4 n2 w1 hw1 bs e).1).upd hF3
      refine wgs_any ?_
      refine wg_sub ?_
      repeat (walk_at "s")
      refine oset_dK B (.inr n2) hF4 (by rw [List.length_map]; have := putS_len tl n w1; exact Nat.lt_of_le_of_lt (Nat.le_trans this (Nat.succ_le_succ len)) (by decide)) ?_
      rw [dS_put, updM_updM]
      repeat (walk_at "s")
      have ln : (putS (putS tl n w1) n2 w0).length ≤ tl.length + 1 := by
        rw [putS_len_in (by rw [putS_keyIn hn]; exact hn2)]
        exact putS_len tl n w1
      exact ⟨_, LeM.refl, q F _ _ nF (l03.put nF) updM_same (((tk3.put fun bs e => (get4 n2 w1 hw1 bs e).1).put fun bs e => (get4 n w0 hw0 bs e).1).upd hF3) ((t4.put fun bs e => (get4 n2 w1 hw1 bs e).2).put fun bs e => (get4 n w0 hw0 bs e).2) (putS_nodup (putS_nodup nd)) ln⟩
    · repeat (walk_at "s")
      refine ite_dec (fun c2 => ?_) (fun c2 => ?_)
      · repeat (walk_at "s")
        refine ⟨by show 4 ≤ sizeLine; decide, fun Z M4 nZ l4 hZ => ?_⟩
        repeat (walk_at "s")
        refine ⟨b, .ref Z, _, rfl, l4 _ _ hb3, .ref hZ, by show 0 < 4; decide, by show 4 < 1000000; decide, fun y hy => ?_⟩
        obtain ⟨k, hk4, rfl⟩ : ∃ k, k < 4 ∧ y = .str (sideS k) := by
          simp only [List.mem_cons, List.not_mem_nil, or_false] at hy
          rcases hy with h | h | h | h
          · exact ⟨0, by decide, h⟩
          · exact ⟨1, by decide, h⟩
          · exact ⟨2, by decide, h⟩
          · exact ⟨3, by decide, h⟩
        have nle : n.length ≤ 100 := by
          obtain ⟨p, hp, e⟩ := List.mem_map.mp (sub n hn)
          have nme : nmB n = true := e ▸ nm p hp
          unfold nmB at nme
          simp only [Bool.and_eq_true] at nme
          have := of_decide_eq_true nme.1.2
          omega
        repeat (walk_at "s")
        refine oi_dS B (.inl (l4 _ _ (l03 _ _ hs))) (site_get (sub n hn)) ?_
        repeat (walk_at "s")
        refine ⟨b, _, rfl, l4 _ _ hb3, by decide, by decide, fun x x0 x1 => ?_⟩
        repeat (walk_at "s")
        refine ⟨prF l n, n, 1 + x, k, rfl, hk4, nle, by omega, by omega, ?_⟩
        repeat (walk_at "s")
        refine ⟨by show 3 ≤ sizeLine; decide, ?_⟩
        refine wg_sub ?_
        repeat (walk_at "s")
        refine oset_dK B (.inr n) (l4 _ _ hF3) tl1 ?_
        rw [show VV.tup [.str "laid", .str (sideS k), vbx (sideF (prF l n) n (1 + x) k)] = vla (0, .laid k (sideF (prF l n) n (1 + x) k)) from rfl, dS_put]
        repeat (walk_at "s")
        exact ⟨_, LeM.refl, qp n (0, .laid k (sideF (prF l n) n (1 + x) k)) M4 l4 fun bs e => by cases e⟩
      · repeat (walk_at "s")
        refine ite_dec (fun c3 => ?_) (fun c3 => ?_)
        · repeat (walk_at "s")
          refine ⟨by show 2 ≤ sizeLine; decide, ?_⟩
          refine wg_sub ?_
          repeat (walk_at "s")
          refine oset_dK B (.inr n) hF3 tl1 ?_
          rw [show VV.tup [.str "under", .str n2] = vla (0, .under n2) from rfl, dS_put]
          repeat (walk_at "s")
          exact ⟨_, LeM.refl, qp n (0, .under n2) M3 LeM.refl fun bs e => by cases e⟩
        · have nle : n.length ≤ 100 := by
            obtain ⟨p, hp, e⟩ := List.mem_map.mp (sub n hn)
            have nme : nmB n = true := e ▸ nm p hp
            unfold nmB at nme
            simp only [Bool.and_eq_true] at nme
            have := of_decide_eq_true nme.1.2
            omega
          have get4 : ∀ bs, w0.2 = .barred bs → M3 w0.1 = some (.lst (bs.map vbar)) ∧ bs.length = 4 := fun bs eb => ⟨tk3 _ (getS_mem hw0) bs eb, t4 _ (getS_mem hw0) bs eb⟩
          refine wss_cons ?_
          refine ws_if ?_
          refine WT.mono (R := fun b M' => M' = M3 ∧ (b = true → ∃ bs, w0.2 = .barred bs)) ?_ ?_
          · obtain ⟨a0, t0⟩ := w0
            refine wt_w (ww_and ?_)
            repeat (walk_at "s")
            refine ite_dec (fun c4 => ?_) (fun c4 => ?_)
            · repeat (walk_at "s")
              cases t0 with
              | under o =>
                refine oi_tup (w := .str "under") (atI_nat (j := 0) rfl) ?_
                repeat (walk_at "s")
                exact ⟨rfl, fun h => absurd (of_decide_eq_true h) (by decide)⟩
              | laid k b =>
                refine oi_tup (w := .str "laid") (atI_nat (j := 0) rfl) ?_
                repeat (walk_at "s")
                exact ⟨rfl, fun h => absurd (of_decide_eq_true h) (by decide)⟩
              | barred bs =>
                refine oi_tup (w := .str "barred") (atI_nat (j := 0) rfl) ?_
                repeat (walk_at "s")
                exact ⟨rfl, fun _ => ⟨bs, rfl⟩⟩
            · exact ⟨rfl, fun h => nomatch h⟩
          · rintro kk M' ⟨rfl, hk⟩
            cases kk with
            | true =>
              obtain ⟨bs, hbs⟩ := hk rfl
              obtain ⟨a0, t0⟩ := w0
              change t0 = _ at hbs
              subst hbs
              obtain ⟨hA, hA4⟩ := get4 bs rfl
              refine iteT ?_
              repeat (walk_at "s")
              refine oi_tup (w := .ref a0) (atI_nat (j := 1) rfl) ?_
              repeat (walk_at "s")
              refine oc_list (.ref hA) fun Z nZ => ?_
              have hZ : updM M' Z (.lst (bs.map vbar)) Z = _ := updM_same
              have lZ := LeM.new (o := .lst (bs.map vbar)) nZ
              generalize updM M' Z (.lst (bs.map vbar)) = M4 at hZ lZ
              repeat (walk_at "s")
              refine ⟨by show 2 ≤ sizeLine; decide, fun Y M5 nY l5 hY => ?_⟩
              repeat (walk_at "s")
              refine ⟨b, .ref Y, _, rfl, l5 _ _ (lZ _ _ hb3), .ref hY, by show 0 < 2; decide, by show 2 < 1000000; decide, fun y hy => ?_⟩
              obtain ⟨sn, rfl⟩ : ∃ sn, y = .str sn := by
                simp only [List.mem_cons, List.not_mem_nil, or_false] at hy
                rcases hy with h | h
                · exact ⟨_, h⟩
                · exact ⟨_, h⟩
              repeat (walk_at "s")
              refine ⟨by show 2 ≤ sizeLine; decide, ?_⟩
              refine wg_sub ?_
              repeat (walk_at "s")
              refine ⟨b, _, rfl, l5 _ _ (lZ _ _ hb3), by decide, by decide, fun x x0 x1 => ?_⟩
              obtain ⟨x, rfl⟩ := Int.eq_ofNat_of_zero_le x0
              refine oset_lst (l5 _ _ hZ) (j := x) (ixN_j (by rw [List.length_map]; omega)) ?_
              rw [show VV.tup [.str sn, .str n2] = vbar (some (sn, n2)) from rfl, ← List.map_set]
              have eZ : updM M5 Z (.lst ((bs.set x (some (sn, n2))).map vbar)) Z = _ := updM_same
              have nZF : Z ≠ F := fun z => by subst z; rw [hF3] at nZ; cases nZ
              have l6 : LeM M' (updM M5 Z (.lst ((bs.set x (some (sn, n2))).map vbar))) := (lZ.trans l5).put nZ
              generalize updM M5 Z (.lst ((bs.set x (some (sn, n2))).map vbar)) = M6 at eZ l6
              repeat (walk_at "s")
              refine ⟨by show 2 ≤ sizeLine; decide, ?_⟩
              refine wg_sub ?_
              repeat (walk_at "s")
              refine oset_dK B (.inr n) (l6 _ _ hF3) tl1 ?_
              rw [show VV.tup [.str "barred", .ref Z] = vla (Z, .barred (bs.set x (some (sn, n2)))) from rfl, dS_put]
              repeat (walk_at "s")
              exact ⟨_, LeM.refl, qp n (Z, .barred (bs.set x (some (sn, n2)))) M6 l6 fun bs2 e => by cases e; exact ⟨eZ, by rw [List.length_set]; exact hA4⟩⟩
            | false =>
              refine iteF ?_
              refine wss_cons ?_
              refine ws_asg ?_
              repeat (walk_at "s")
              refine wg_sub ?_
              refine we_nm B (by walk_at "at") (by walk_at "vis") (by rfl) ?_
              refine we_op ?_
              refine we_str ?_
              refine we_sliceS ?_
              refine we_nm B (by walk_at "at") (by walk_at "vis") (by rfl) ?_
              show WE X _ _ _ _
              refine we_int ⟨5, rfl, n, rfl, Nat.le_trans nle (by decide), ?_⟩
              refine o2_addS ?_ ?_
              · have := cutS_len n none (some 5)
                exact Nat.le_trans (Nat.add_le_add (show _ ≤ 1 by decide) (Nat.le_trans this nle)) (by decide)
              refine oset_dK B (.inr _) hF3 tl1 ?_
              rw [dS_put]
              repeat (walk_at "s")
              exact ⟨_, LeM.refl, qp _ w0 M' LeM.refl get4⟩
end G3

set_option Elab.async false
set_option linter.all false
set_option maxRecDepth 100000
set_option maxHeartbeats 4000000
set_option pp.maxSteps 1000
namespace G3
open PySem PySem.Spec L2
local macro_rules | `(tactic| walk_at "at") => `(tactic| with_reducible (repeat (first | exact At.here | apply At.there)))
local macro_rules | `(tactic| walk_at "vis") => `(tactic| first | exact Or.inl rfl | exact Or.inr (Or.inl rfl) | exact Or.inr (Or.inr rfl))
local macro_rules | `(tactic| walk_at "loc") => `(tactic| first | exact Or.inl rfl | exact Or.inr rfl)
local macro_rules | `(tactic| walk_at "as") => `(tactic| with_reducible assumption)
local macro_rules | `(tactic| walk_at "e") => `(tactic| first
  | ((with_reducible show G3.WE _ (.Name _ _) _ _ _); first | refine we_nm (by walk_at "as") (by walk_at "at") (by walk_at "vis") (by rfl) ?_ | refine we_tyn (by walk_at "as") (by rfl) (by walk_at "as") (by walk_at "as") ?_ | refine we_cls (C := He.ga _ _) (by walk_at "as") (by rfl) (by walk_at "as") ?_ | refine we_nmH (by walk_at "as") (by walk_at "at") (by walk_at "vis") (by rfl) ?_ | refine we_tynH (by walk_at "as") (by rfl) (by walk_at "as") (by walk_at "as") ?_ | refine we_clsH (C := He.ga _ _) (by walk_at "as") (by rfl) (by walk_at "as") ?_)
  | ((with_reducible show G3.WE _ (.Constant (.int _) _ _) _ _ _); refine we_int ?_)
  | ((with_reducible show G3.WE _ (.Subscript _ (.Slice _ _ (some _) _) _) _ _ _); refine we_rev ?_)
  | ((with_reducible show G3.WE _ (.Subscript _ (.Slice _ _ none _) _) _ _ _); refine we_slice ?_)
  | ((with_reducible show G3.WE _ (.Subscript _ _ _) _ _ _); refine we_ix ?_)
  | ((with_reducible show G3.WE _ (.BinOp _ _ _ _) _ _ _); refine we_op ?_)
  | ((with_reducible show G3.WE _ (.Call (.Name _ _) _ _ _) _ _ _); first
      | refine we_call (by walk_at "as") (by walk_at "as") (by decide) (by rfl) ?_
      | refine we_callB (by walk_at "as") (by rfl) (by walk_at "as") (by walk_at "as") ?_
      | refine we_callTy (by walk_at "as") (by rfl) (by walk_at "as") (by walk_at "as") ?_
      | refine we_callX (by walk_at "as") (by walk_at "as") (by walk_at "as") (by decide) (by rfl) (by walk_at "as") ?_
      | refine we_callBH (by walk_at "as") (by rfl) (by walk_at "as") (by walk_at "as") ?_)
  | ((with_reducible show G3.WE _ (.Attribute _ _ _) _ _ _); first | refine we_fld (by walk_at "as") ?_ | refine we_xfH (by walk_at "as") (by walk_at "as") (by walk_at "as") (by walk_at "as") ?_)
  | ((with_reducible show G3.WE _ (.Tuple _ _ _) _ _ _); refine we_tup ?_)
  | ((with_reducible show G3.WE _ (.List _ _) _ _ _); first | refine we_lstN ?_ | refine we_lst ?_)
  | ((with_reducible show G3.WE _ (.Compare _ [_] _ _) _ _ _); refine we_cmp ?_)
  | ((with_reducible show G3.WE _ (.Compare _ [_, _] _ _) _ _ _); refine we_chain ?_)
  | ((with_reducible show G3.WE _ (.UnaryOp .Not _ _) _ _ _); refine we_not ?_)
  | ((with_reducible show G3.WE _ (.UnaryOp _ _ _) _ _ _); refine we_un ?_)
  | ((with_reducible show G3.WE _ (.IfExp _ _ _ _) _ _ _); refine we_if ?_)
  | ((with_reducible show G3.WE _ (.Constant _ _ _) _ _ _); first | refine we_bl ?_ | refine we_non ?_ | refine we_str ?_)
  | ((with_reducible show G3.WE _ (.JoinedStr (_ :: _ :: _) _) _ _ _); refine we_joined ?_)
  | ((with_reducible show G3.WE _ (.FormattedValue _ _ _ _) _ _ _); refine we_fmt ?_)
  | ((with_reducible show G3.WE _ (.BoolOp _ [_] _) _ _ _); refine we_one ?_)
  | ((with_reducible show G3.WE _ (.BoolOp .And _ _) _ _ _); refine we_and ?_)
  | ((with_reducible show G3.WE _ (.BoolOp .Or _ _) _ _ _); refine we_or ?_))
local macro_rules | `(tactic| walk_at "t") => `(tactic| first
  | ((with_reducible show WT _ (.Compare _ [_] _ _) _ _ _); refine wt_cmp ?_)
  | ((with_reducible show WT _ (.Compare _ [_, _] _ _) _ _ _); refine wt_chain ?_)
  | ((with_reducible show WT _ (.UnaryOp .Not _ _) _ _ _); refine wt_not ?_)
  | ((with_reducible show WT _ (.BoolOp .And _ _) _ _ _); refine wt_w (ww_and ?_))
  | ((with_reducible show WT _ (.BoolOp .Or _ _) _ _ _); refine wt_w (ww_or ?_))
  | refine wt_truth ?_)
local macro_rules | `(tactic| walk_at "w") => `(tactic| first
  | ((with_reducible show WW _ (.BoolOp .And [_] _) _ _ _); refine ww_and1 ?_)
  | ((with_reducible show WW _ (.BoolOp .Or [_] _) _ _ _); refine ww_or1 ?_)
  | ((with_reducible show WW _ (.BoolOp .And _ _) _ _ _); refine ww_and ?_)
  | ((with_reducible show WW _ (.BoolOp .Or _ _) _ _ _); refine ww_or ?_))
local macro_rules | `(tactic| walk_at "st") => `(tactic| first
  | ((with_reducible show WS _ (.Assign [.Name _ _] (.ListComp _ _ _ _) _) _ _ _); fail)
  | ((with_reducible show WS _ (.Assign [.Name _ _] _ _) _ _ _); first | refine ws_set (by walk_at "as") (by walk_at "at") (by walk_at "loc") ?_ | refine ws_setH (by walk_at "as") (by walk_at "at") (by walk_at "loc") ?_)
  | ((with_reducible show WS _ (.Return (some _) _) _ _ _); refine ws_ret ?_)
  | ((with_reducible show WS _ (.If _ _ _ _) _ _ _); refine ws_if ?_)
  | ((with_reducible show WS _ (.Expr (.Call (.Attribute _ "append" _) _ _ _) _) _ _ _); refine ws_append ?_)
  | ((with_reducible show WS _ (.Expr (.Call (.Attribute _ "insert" _) _ _ _) _) _ _ _); refine ws_insert ?_)
  | ((with_reducible show WS _ (.Expr _ _) _ _ _); refine ws_expr ?_)
  | ((with_reducible show WS _ (.Assign [.Tuple _ _ _] (.Tuple _ _ _) _) _ _ _); first
      | refine ws_par2 (by walk_at "as") (by walk_at "at") (by walk_at "at") (by rfl) (by rfl) (by rfl) (by rfl) ?_
      | refine ws_asgT (by walk_at "as") (by rfl) ?_)
  | ((with_reducible show WS _ (.Raise (some _) none _) _ _ _); refine ws_raise (by walk_at "as") (by walk_at "as") ?_)
  | ((with_reducible show WS _ (.Assign [_] _ _) _ _ _); (fail_if_success (with_reducible show WS _ (.Assign [.Attribute _ _ _] _ _) _ _ _)); refine ws_asg ?_)
  | ((with_reducible show WS _ (.Return none _) _ _ _); refine ws_retN ?_)
  | ((with_reducible show WS _ (.Pass _) _ _ _); refine ws_pass ?_)
  | ((with_reducible show WS _ (.Break _) _ _ _); refine ws_break ?_)
  | ((with_reducible show WS _ (.Continue _) _ _ _); refine ws_continue ?_))
local macro_rules | `(tactic| walk_at "mul") => `(tactic| with_unfolding_all first
  | exact cml (by decide) (by decide)
  | exact cmr (by decide) (by decide)
  | exact cmw (by with_reducible assumption) (by with_reducible assumption) (by decide) (by decide) (by decide)
  | exact cml (by omega) (by omega)
  | exact cmr (by omega) (by omega))
local macro_rules | `(tactic| walk_at "o2") => `(tactic| with_reducible first
  | refine o2_add ?_
  | refine o2_sub ?_
  | refine o2_mul (by walk_at "mul") ?_
  | refine o2_lt ?_
  | refine o2_le ?_
  | refine o2_gt ?_
  | refine o2_ge ?_
  | refine o2_eqi ?_
  | refine o2_nei ?_
  | refine o2_eqb ?_
  | refine o2_neb ?_
  | refine o2_eqs ?_
  | refine o2_nes ?_
  | refine o2_isN ?_
  | refine o2_notN ?_)
local macro_rules | `(tactic| walk_at "x") => `(tactic| first
  | ((with_reducible show G3.WE _ _ _ _ _); walk_at "e")
  | ((with_reducible show WA _ _ _ _ _); first | refine wa_cons ?_ | refine wa_nil ?_)
  | ((with_reducible show WMk _ (.Call (.Name _ _) [] _ _) _ _ _); refine wmk_own0 (by walk_at "as") (by walk_at "as") (by decide) (by rfl) ?_)
  | ((with_reducible show WO _ _ _ _ _); first | (show G3.WE _ _ _ _ _))
  | ((with_reducible show WT _ _ _ _ _); walk_at "t")
  | ((with_reducible show G3.WJ _ _ _ _ _ _); first | refine wj_cons ?_ | refine wj_nil ?_)
  | ((with_reducible show G3.WK _ _ _ _ _); first | refine wk_cons ?_ | refine wk_nil ?_)
  | ((with_reducible show WW _ _ _ _ _); walk_at "w")
  | ((with_reducible show WS _ _ _ _ _); walk_at "st")
  | ((with_reducible show O2 _ _ _ _ _ _); walk_at "o2")
  | ((with_reducible show OI _ (.tup _) _ _ _); refine oi_tup rfl ?_)
  | ((with_reducible show OC _ _ _ _ _); with_reducible first | refine oc_abs ?_ | refine oc_int ?_ | refine oc_intb ?_ | refine oc_lenT ?_)
  | ((with_reducible show O1 _ _ _ _ _); refine o1_neg ?_)
  | ((with_reducible show BQ _ _ _); refine ⟨_, rfl, ?_⟩)
  | ((with_reducible show WG _ _ _ _ _ _); first | refine wg_name (by walk_at "as") (by walk_at "at") (by walk_at "loc") ?_ | refine wg_tup (by walk_at "as") ?_)
  | ((with_reducible show WGs _ _ _ _ _ _); first | refine wgs_cons (by walk_at "as") (by walk_at "at") (by walk_at "loc") ?_ | refine wgs_nil ?_))
local macro_rules | `(tactic| walk_at "s") => `(tactic| first
  | walk_at "x"
  | ((with_reducible show WSs _ _ _ _ _); first | refine wss_cons ?_ | refine wss_nil ?_))
theorem df_box_at {E : Ev} (hL : E.mg "len" = none) (T : Tx E "box_at" (top 2) ["pair", "name", "letter", "side"]) : E.df 1 "box_at" ["pair", "name", "letter", "side"] spBoxAt := by
  refine T.df ["pair", "name", "letter", "side", "i", "j", "wide", "left", "low"] ⟨rfl, rfl, rfl, by decide +kernel, rfl, by decide +kernel, by decide +kernel⟩ (fun ws M Q ⟨_, _, _, _, e, _⟩ => by rw [e]; rfl) fun X B ws M Q ⟨p, n, t, k, e, hk, hn, t0, t1, q⟩ => ?_
  subst e
  have bL := bb_len
  have nn : (0 : Int) ≤ (n.length : Int) := Int.natCast_nonneg _
  have nn2 : (n.length : Int) ≤ 100 := by omega
  show WSs X _ [some (vpf p), some (.str n), some (.int t), some (.str (sideS k)), none, none, none, none, none] M _
  repeat (walk_at "s")
  refine wg_asTup ?_
  repeat (walk_at "s")
  refine oc_lenS (Nat.le_trans hn (by decide)) ?_
  repeat (walk_at "s")
  refine ⟨by show 2 ≤ sizeLine; decide, ?_⟩
  refine o2_inTx (ns := [Str.ofString "ne", Str.ofString "se"]) ?_
  refine ⟨_, rfl, ?_⟩
  rw [side_r hk]
  have fin : ∀ l b : Int, l = p.1 - (if k % 2 = 1 then wideF n t else 0) → b = p.2 - (if 2 ≤ k then t else 0) → Q (.tup [.int l, .int b, .int (l + (n.length : Int) * t), .int (b + t)]) M := fun l b e1 e2 => by
    subst e1; subst e2; exact q
  refine ite_ndec (fun h1 => ?_) (fun h1 => ?_)
  · repeat (walk_at "s")
    refine ⟨by show 2 ≤ sizeLine; decide, ?_⟩
    refine o2_inTx (ns := [Str.ofString "ne", Str.ofString "nw"]) ?_
    refine ⟨_, rfl, ?_⟩
    rw [side_u hk]
    refine ite_ndec (fun h2 => ?_) (fun h2 => ?_)
    · repeat (walk_at "s")
      refine ⟨by show 4 ≤ sizeLine; decide, ?_⟩
      exact ⟨M, LeM.refl, fin _ _ (by rw [if_neg h1]; omega) (by rw [if_neg h2]; omega)⟩
    · repeat (walk_at "s")
      refine ⟨by show 4 ≤ sizeLine; decide, ?_⟩
      exact ⟨M, LeM.refl, fin _ _ (by rw [if_neg h1]; omega) (by rw [if_pos h2])⟩
  · repeat (walk_at "s")
    refine ⟨by show 2 ≤ sizeLine; decide, ?_⟩
    refine o2_inTx (ns := [Str.ofString "ne", Str.ofString "nw"]) ?_
    refine ⟨_, rfl, ?_⟩
    rw [side_u hk]
    refine ite_ndec (fun h2 => ?_) (fun h2 => ?_)
    · repeat (walk_at "s")
      refine ⟨by show 4 ≤ sizeLine; decide, ?_⟩
      exact ⟨M, LeM.refl, fin _ _ (by rw [if_pos h1]; rfl) (by rw [if_neg h2]; omega)⟩
    · repeat (walk_at "s")
      refine ⟨by show 4 ≤ sizeLine; decide, ?_⟩
      exact ⟨M, LeM.refl, fin _ _ (by rw [if_pos h1]; rfl) (by rw [if_pos h2])⟩
theorem df_in_box {E : Ev} (T : Tx E "in_box" (top 3) ["pair", "box"]) : E.df 1 "in_box" ["pair", "box"] spInBox := by
  refine T.df ["pair", "box", "left", "low", "right", "top"] ⟨rfl, rfl, rfl, by decide +kernel, rfl, by decide +kernel, by decide +kernel⟩ (fun ws M Q ⟨_, _, e, _⟩ => by rw [e]; rfl) fun X B ws M Q ⟨p, b, e, q⟩ => ?_
  subst e
  show WSs X _ [some (vpf p), some (vbx b), none, none, none, none] M _
  repeat (walk_at "s")
  refine oi_ftp (atI_nat (j := 0) rfl) ?_
  repeat (walk_at "s")
  unfold inB at q
  refine ite_dec (fun h1 => ?_) (fun h1 => ?_)
  · repeat (walk_at "s")
    refine ite_dec (fun h2 => ?_) (fun h2 => ?_)
    · repeat (walk_at "s")
      refine oi_ftp (atI_nat (j := 1) rfl) ?_
      repeat (walk_at "s")
      refine ite_dec (fun h3 => ?_) (fun h3 => ?_)
      · repeat (walk_at "s")
        exact ⟨M, LeM.refl, by rw [decide_eq_true h1, decide_eq_true h2, decide_eq_true h3] at q; exact q⟩
      · exact ⟨M, LeM.refl, by rw [decide_eq_true h1, decide_eq_true h2, decide_eq_false h3] at q; exact q⟩
    · exact ⟨M, LeM.refl, by rw [decide_eq_true h1, decide_eq_false h2] at q; exact q⟩
  · refine ⟨_, rfl, iteF ?_⟩
    exact ⟨M, LeM.refl, by rw [decide_eq_false h1] at q; exact q⟩
theorem df_meet {E : Ev} (hMx : E.mg "max" = none) (hMn : E.mg "min" = none) (T : Tx E "meet" (top 4) ["one", "other"]) : E.df 1 "meet" ["one", "other"] spMeet := by
  refine T.df ["one", "other", "across"] ⟨rfl, rfl, rfl, by decide +kernel, rfl, by decide +kernel, by decide +kernel⟩ (fun ws M Q ⟨_, _, e, _⟩ => by rw [e]; rfl) fun X B ws M Q ⟨a, b, e, q⟩ => ?_
  subst e
  have bMx := bb_max
  have bMn := bb_min
  have mx : ∀ i j : Int, (if j > i then j else i) = max i j := fun i j => by split <;> omega
  have mn : ∀ i j : Int, (if j < i then j else i) = min i j := fun i j => by split <;> omega
  show WSs X _ [some (vbx a), some (vbx b), none] M _
  repeat (walk_at "s")
  refine oc_max2 B.calm ?_
  rw [mx]
  repeat (walk_at "s")
  refine oc_min2 B.calm ?_
  rw [mn]
  repeat (walk_at "s")
  unfold meetB at q
  cases h1 : decide (max a.1 b.1 ≤ min a.2.2.1 b.2.2.1) with
  | false =>
    rw [h1] at q
    refine iteF ?_
    exact ⟨M, LeM.refl, q⟩
  | true =>
    rw [h1] at q
    refine iteT ?_
    repeat (walk_at "s")
    refine oc_max2 B.calm ?_
    rw [mx]
    repeat (walk_at "s")
    refine oc_min2 B.calm ?_
    rw [mn]
    repeat (walk_at "s")
    exact ⟨M, LeM.refl, q⟩
theorem df_by_rank {E : Ev} (hX : E.xc) (hS : E.mg "sorted" = none) (tb : LamX.TabB E.base E.mg (codP E.K "by_rank") (tabP E.K "by_rank")) (T : TxC E "by_rank" (top 5) ["sites"]) : E.df 1 "by_rank" ["sites"] (spByRank (tabP E.K "by_rank")) := by
  refine T.df hX tb ["sites"] ⟨rfl, rfl, rfl, by decide +kernel, rfl, by decide +kernel, by decide +kernel⟩ (fun ws M Q ⟨_, _, e, _⟩ => by rw [e]; rfl) fun X B C ws M Q ⟨d, l, e, hd, hP, q⟩ => ?_
  subst e
  show WSs X _ [some (.ref d)] M _
  refine wss_cons (ws_ret ?_)
  refine we_sortBy B C (by rfl) hS (i := 0) (a := d) (by walk_at "at") (.inl rfl) (by rfl) hd (rankF l) (fun n b hb => ⟨_, by unfold rankF; rw [hb]; rfl⟩) hP fun r M2 nr l2 hr => ?_
  exact ⟨M2, LeM.refl, q r M2 nr l2 hr⟩
end G3

set_option Elab.async false
set_option linter.all false
set_option maxRecDepth 100000
set_option maxHeartbeats 4000000
set_option pp.maxSteps 1000
namespace G3
open PySem PySem.Spec L2
local macro_rules | `(tactic| walk_at "at") => `(tactic| with_reducible (repeat (first | exact At.here | apply At.there)))
local macro_rules | `(tactic| walk_at "vis") => `(tactic| first | exact Or.inl rfl | exact Or.inr (Or.inl rfl) | exact Or.inr (Or.inr rfl))
local macro_rules | `(tactic| walk_at "loc") => `(tactic| first | exact Or.inl rfl | exact Or.inr rfl)
local macro_rules | `(tactic| walk_at "as") => `(tactic| with_reducible assumption)
local macro_rules | `(tactic| walk_at "e") => `(tactic| first
  | ((with_reducible show G3.WE _ (.Name _ _) _ _ _); first | refine we_nm (by walk_at "as") (by walk_at "at") (by walk_at "vis") (by rfl) ?_ | refine we_tyn (by walk_at "as") (by rfl) (by walk_at "as") (by walk_at "as") ?_ | refine we_cls (C := He.ga _ _) (by walk_at "as") (by rfl) (by walk_at "as") ?_ | refine we_nmH (by walk_at "as") (by walk_at "at") (by walk_at "vis") (by rfl) ?_ | refine we_tynH (by walk_at "as") (by rfl) (by walk_at "as") (by walk_at "as") ?_ | refine we_clsH (C := He.ga _ _) (by walk_at "as") (by rfl) (by walk_at "as") ?_)
  | ((with_reducible show G3.WE _ (.Constant (.int _) _ _) _ _ _); refine we_int ?_)
  | ((with_reducible show G3.WE _ (.Subscript _ (.Slice _ _ (some _) _) _) _ _ _); refine we_rev ?_)
  | ((with_reducible show G3.WE _ (.Subscript _ (.Slice _ _ none _) _) _ _ _); refine we_slice ?_)
  | ((with_reducible show G3.WE _ (.Subscript _ _ _) _ _ _); refine we_ix ?_)
  | ((with_reducible show G3.WE _ (.BinOp _ _ _ _) _ _ _); refine we_op ?_)
  | ((with_reducible show G3.WE _ (.Call (.Name _ _) _ _ _) _ _ _); first
      | refine we_call (by walk_at "as") (by walk_at "as") (by decide) (by rfl) ?_
      | refine we_callB (by walk_at "as") (by rfl) (by walk_at "as") (by walk_at "as") ?_
      | refine we_callTy (by walk_at "as") (by rfl) (by walk_at "as") (by walk_at "as") ?_
      | refine we_callX (by walk_at "as") (by walk_at "as") (by walk_at "as") (by decide) (by rfl) (by walk_at "as") ?_
      | refine we_callBH (by walk_at "as") (by rfl) (by walk_at "as") (by walk_at "as") ?_)
  | ((with_reducible show G3.WE _ (.Attribute _ _ _) _ _ _); first | refine we_fld (by walk_at "as") ?_ | refine we_xfH (by walk_at "as") (by walk_at "as") (by walk_at "as") (by walk_at "as") ?_)
  | ((with_reducible show G3.WE _ (.Tuple _ _ _) _ _ _); refine we_tup ?_)
  | ((with_reducible show G3.WE _ (.List _ _) _ _ _); first | refine we_lstN ?_ | refine we_lst ?_)
  | ((with_reducible show G3.WE _ (.Compare _ [_] _ _) _ _ _); refine we_cmp ?_)
  | ((with_reducible show G3.WE _ (.Compare _ [_, _] _ _) _ _ _); refine we_chain ?_)
  | ((with_reducible show G3.WE _ (.UnaryOp .Not _ _) _ _ _); refine we_not ?_)
  | ((with_reducible show G3.WE _ (.UnaryOp _ _ _) _ _ _); refine we_un ?_)
  | ((with_reducible show G3.WE _ (.IfExp _ _ _ _) _ _ _); refine we_if ?_)
  | ((with_reducible show G3.WE _ (.Constant _ _ _) _ _ _); first | refine we_bl ?_ | refine we_non ?_ | refine we_str ?_)
  | ((with_reducible show G3.WE _ (.JoinedStr (_ :: _ :: _) _) _ _ _); refine we_joined ?_)
  | ((with_reducible show G3.WE _ (.FormattedValue _ _ _ _) _ _ _); refine we_fmt ?_)
  | ((with_reducible show G3.WE _ (.BoolOp _ [_] _) _ _ _); refine we_one ?_)
  | ((with_reducible show G3.WE _ (.BoolOp .And _ _) _ _ _); refine we_and ?_)
  | ((with_reducible show G3.WE _ (.BoolOp .Or _ _) _ _ _); refine we_or ?_))
local macro_rules | `(tactic| walk_at "t") => `(tactic| first
  | ((with_reducible show WT _ (.Compare _ [_] _ _) _ _ _); refine wt_cmp ?_)
  | ((with_reducible show WT _ (.Compare _ [_, _] _ _) _ _ _); refine wt_chain ?_)
  | ((with_reducible show WT _ (.UnaryOp .Not _ _) _ _ _); refine wt_not ?_)
  | ((with_reducible show WT _ (.BoolOp .And _ _) _ _ _); refine wt_w (ww_and ?_))
  | ((with_reducible show WT _ (.BoolOp .Or _ _) _ _ _); refine wt_w (ww_or ?_))
  | refine wt_truth ?_)
local macro_rules | `(tactic| walk_at "w") => `(tactic| first
  | ((with_reducible show WW _ (.BoolOp .And [_] _) _ _ _); refine ww_and1 ?_)
  | ((with_reducible show WW _ (.BoolOp .Or [_] _) _ _ _); refine ww_or1 ?_)
  | ((with_reducible show WW _ (.BoolOp .And _ _) _ _ _); refine ww_and ?_)
  | ((with_reducible show WW _ (.BoolOp .Or _ _) _ _ _); refine ww_or ?_))
local macro_rules | `(tactic| walk_at "st") => `(tactic| first
  | ((with_reducible show WS _ (.Assign [.Name _ _] (.ListComp _ _ _ _) _) _ _ _); fail)
  | ((with_reducible show WS _ (.Assign [.Name _ _] _ _) _ _ _); first | refine ws_set (by walk_at "as") (by walk_at "at") (by walk_at "loc") ?_ | refine ws_setH (by walk_at "as") (by walk_at "at") (by walk_at "loc") ?_)
  | ((with_reducible show WS _ (.Return (some _) _) _ _ _); refine ws_ret ?_)
  | ((with_reducible show WS _ (.If _ _ _ _) _ _ _); refine ws_if ?_)
  | ((with_reducible show WS _ (.Expr (.Call (.Attribute _ "append" _) _ _ _) _) _ _ _); refine ws_append ?_)
  | ((with_reducible show WS _ (.Expr (.Call (.Attribute _ "insert" _) _ _ _) _) _ _ _); refine ws_insert ?_)
  | ((with_reducible show WS _ (.Expr _ _) _ _ _); refine ws_expr ?_)
  | ((with_reducible show WS _ (.Assign [.Tuple _ _ _] (.Tuple _ _ _) _) _ _ _); first
      | refine ws_par2 (by walk_at "as") (by walk_at "at") (by walk_at "at") (by rfl) (by rfl) (by rfl) (by rfl) ?_
      | refine ws_asgT (by walk_at "as") (by rfl) ?_)
  | ((with_reducible show WS _ (.Raise (some _) none _) _ _ _); refine ws_raise (by walk_at "as") (by walk_at "as") ?_)
  | ((with_reducible show WS _ (.Assign [_] _ _) _ _ _); (fail_if_success (with_reducible show WS _ (.Assign [.Attribute _ _ _] _ _) _ _ _)); refine ws_asg ?_)
  | ((with_reducible show WS _ (.Return none _) _ _ _); refine ws_retN ?_)
  | ((with_reducible show WS _ (.Pass _) _ _ _); refine ws_pass ?_)
  | ((with_reducible show WS _ (.Break _) _ _ _); refine ws_break ?_)
  | ((with_reducible show WS _ (.Continue _) _ _ _); refine ws_continue ?_))
local macro_rules | `(tactic| walk_at "mul") => `(tactic| with_unfolding_all first
  | exact cml (by decide) (by decide)
  | exact cmr (by decide) (by decide)
  | exact cmw (by with_reducible assumption) (by with_reducible assumption) (by decide) (by decide) (by decide)
  | exact cml (by omega) (by omega)
  | exact cmr (by omega) (by omega))
local macro_rules | `(tactic| walk_at "o2") => `(tactic| with_reducible first
  | refine o2_add ?_
  | refine o2_sub ?_
  | refine o2_mul (by walk_at "mul") ?_
  | refine o2_lt ?_
  | refine o2_le ?_
  | refine o2_gt ?_
  | refine o2_ge ?_
  | refine o2_eqi ?_
  | refine o2_nei ?_
  | refine o2_eqb ?_
  | refine o2_neb ?_
  | refine o2_eqs ?_
  | refine o2_nes ?_
  | refine o2_isN ?_
  | refine o2_notN ?_)
local macro_rules | `(tactic| walk_at "x") => `(tactic| first
  | ((with_reducible show G3.WE _ _ _ _ _); walk_at "e")
  | ((with_reducible show WA _ _ _ _ _); first | refine wa_cons ?_ | refine wa_nil ?_)
  | ((with_reducible show WMk _ (.Call (.Name _ _) [] _ _) _ _ _); refine wmk_own0 (by walk_at "as") (by walk_at "as") (by decide) (by rfl) ?_)
  | ((with_reducible show WO _ _ _ _ _); first | (show G3.WE _ _ _ _ _))
  | ((with_reducible show WT _ _ _ _ _); walk_at "t")
  | ((with_reducible show G3.WJ _ _ _ _ _ _); first | refine wj_cons ?_ | refine wj_nil ?_)
  | ((with_reducible show G3.WK _ _ _ _ _); first | refine wk_cons ?_ | refine wk_nil ?_)
  | ((with_reducible show WW _ _ _ _ _); walk_at "w")
  | ((with_reducible show WS _ _ _ _ _); walk_at "st")
  | ((with_reducible show O2 _ _ _ _ _ _); walk_at "o2")
  | ((with_reducible show OI _ (.tup _) _ _ _); refine oi_tup rfl ?_)
  | ((with_reducible show OC _ _ _ _ _); with_reducible first | refine oc_abs ?_ | refine oc_int ?_ | refine oc_intb ?_ | refine oc_lenT ?_)
  | ((with_reducible show O1 _ _ _ _ _); refine o1_neg ?_)
  | ((with_reducible show BQ _ _ _); refine ⟨_, rfl, ?_⟩)
  | ((with_reducible show WG _ _ _ _ _ _); first | refine wg_name (by walk_at "as") (by walk_at "at") (by walk_at "loc") ?_ | refine wg_tup (by walk_at "as") ?_)
  | ((with_reducible show WGs _ _ _ _ _ _); first | refine wgs_cons (by walk_at "as") (by walk_at "at") (by walk_at "loc") ?_ | refine wgs_nil ?_))
local macro_rules | `(tactic| walk_at "s") => `(tactic| first
  | walk_at "x"
  | ((with_reducible show WSs _ _ _ _ _); first | refine wss_cons ?_ | refine wss_nil ?_))
theorem df_standing {E : Ev} {P : Addr} (D1 : E.df 1 "by_rank" ["sites"] (spByRank P)) (T : Tx E "standing" (top 6) ["sites"]) : E.df 2 "standing" ["sites"] (spStanding P) := by
  refine T.df ["sites", "found", "name"] ⟨rfl, rfl, rfl, by decide +kernel, rfl, by decide +kernel, by decide +kernel⟩ (fun ws M Q ⟨_, _, e, _⟩ => by rw [e]; rfl) fun X B ws M Q ⟨d, l, e, hd, hP, nd, ll, q⟩ => ?_
  subst e
  show WSs X _ [some (.ref d), none, none] M _
  repeat (walk_at "s")
  refine we_dnewT fun F nF => ?_
  have l1 := LeM.new (o := .dT []) nF
  have hF : updM M F (.dT []) F = some (.dT (dTS (standF (prF l) ((ordF l).take 0)))) := updM_same
  generalize updM M F (.dT []) = M1 at l1 hF
  have on := ord_nd nd
  have ol := ord_len l
  refine wss_cut (fun σ M' => ∃ (x2 : Option VV), σ = [some (.ref d), some (.ref F), x2] ∧ LeM M M' ∧ M' F = some (.dT (dTS (standF (prF l) (ordF l))))) ?_ ?_
  · refine ws_forLst B ?_
    repeat (walk_at "s")
    refine ⟨d, l, rfl, hd.le l1, l1 _ _ hP, fun L M2 nL l2 hL => ?_⟩
    have l02 := l1.trans l2
    refine ⟨_, .ref hL, fun i σ M' => ∃ (x2 : Option VV), σ = [some (.ref d), some (.ref F), x2] ∧ LeM M M' ∧ M' L = some (.lst ((ordF l).map .str)) ∧ M' F = some (.dT (dTS (standF (prF l) ((ordF l).take i)))), ⟨_, rfl, l02, hL, l2 _ _ hF⟩, ?_, ?_, ?_⟩
    · rintro i σ M' _ ⟨x2, rfl, _, h, _⟩
      exact .ref h
    · rintro i u σ M3 hi hu ⟨x2, rfl, l3, hL3, hF3⟩
      rw [List.length_map] at hi
      have hn := some_of hi
      rw [List.getElem?_map, hn] at hu
      cases hu
      have hmem := List.mem_of_getElem? hn
      generalize (ordF l)[i] = n at hn hmem
      obtain ⟨s, hs, es, _⟩ := ord_get hmem
      obtain ⟨a1, a2⟩ := stand_at (prF l) on hn
      rw [es] at a1 a2
      have sl : (standF (prF l) ((ordF l).take i)).length ≤ 20 := by
        have := stand_ok (prF l) on i (by omega)
        have h1 := congrArg List.length (stand_names (prF l) on i (by omega))
        rw [List.length_map] at h1
        rw [h1]
        exact Nat.le_trans (List.length_filter_le _ _) (by rw [List.length_take]; omega)
      repeat (walk_at "s")
      refine we_setdT B ?_
      repeat (walk_at "s")
      refine ⟨F, _, rfl, hF3, ?_⟩
      repeat (walk_at "s")
      refine oi_dS B (hd.le l3) hs ?_
      repeat (walk_at "s")
      have LF : L ≠ F := fun z => by subst z; rw [hF3] at hL3; cases hL3
      refine ⟨_, ptK s.1, hF3, rfl, by rw [List.length_map]; exact Nat.lt_of_le_of_lt sl (by decide), fun w hw => ?_, fun hw => ?_⟩
      · rw [dTS_look] at hw
        obtain ⟨o, ho, rfl⟩ := Option.map_eq_some_iff.mp hw
        obtain ⟨_, _, e2⟩ := a2 o ho
        refine wss_nil ?_
        exact ⟨_, rfl, l3, hL3, by rw [e2]; exact hF3⟩
      · rw [putW_new hw]
        rw [dTS_look, Option.map_eq_none_iff] at hw
        obtain ⟨_, e2⟩ := a1 hw
        refine wss_nil ?_
        refine ⟨_, rfl, l3.put nF, by rw [updM_ne LF]; exact hL3, ?_⟩
        rw [updM_same, e2]
        simp only [List.map_append, List.map_cons, List.map_nil]
    · rintro σ M3 ⟨x2, rfl, l3, hL3, hF3⟩
      rw [List.length_map, List.take_length] at hF3
      exact ⟨_, rfl, l3, hF3⟩
  rintro σ M3 ⟨x2, rfl, l3, hF3⟩
  repeat (walk_at "s")
  exact ⟨M3, LeM.refl, q F M3 nF l3 hF3⟩
theorem df_barring {E : Ev} (D1 : E.df 1 "in_box" ["pair", "box"] spInBox) (D2 : E.df 1 "meet" ["one", "other"] spMeet) (T : Tx E "barring" (top 7) ["name", "box", "stands", "boxes"]) : E.df 2 "barring" ["name", "box", "stands", "boxes"] spBarring := by
  refine T.df ["name", "box", "stands", "boxes", "pair", "other", "laid"] ⟨rfl, rfl, rfl, by decide +kernel, rfl, by decide +kernel, by decide +kernel⟩ (fun ws M Q ⟨_, _, _, _, _, _, e, _⟩ => by rw [e]; rfl) fun X B ws M Q ⟨n, b, s, x, st, bx, e, hs, hx, ls, lx, q⟩ => ?_
  subst e
  show WSs X _ [some (.str n), some (vbx b), some (.ref s), some (.ref x), none, none, none] M _
  refine wss_cut (fun σ M' => ∃ (x4 x5 x6 : Option VV), σ = [some (.str n), some (vbx b), some (.ref s), some (.ref x), x4, x5, x6] ∧ M' = M ∧ st.find? (fun z => decide (z.1 ≠ n) && inB z.2 b) = none) ?_ ?_
  · refine ws_lockT hs fun o xs => ?_
    refine ws_for B (wi_itemsLT ?_)
    repeat (walk_at "s")
    refine ⟨s, o, xs, _, rfl, updM_same, ?_⟩
    refine ⟨fun i σ M' => ∃ (x4 x5 x6 : Option VV), σ = [some (.str n), some (vbx b), some (.ref s), some (.ref x), x4, x5, x6] ∧ M' = updM M s (.lkT o xs (dTS st)) ∧ (st.take i).find? (fun z => decide (z.1 ≠ n) && inB z.2 b) = none, ⟨_, _, _, rfl, rfl, by simp⟩, ?_, ?_, ?_⟩
    · rintro i σ M' _ ⟨x4, x5, x6, rfl, rfl, _⟩
      exact updM_same
    · rintro i u σ M' hi ⟨kk, ww, hk, rfl⟩ ⟨x4, x5, x6, rfl, rfl, hn⟩
      rw [List.getElem?_map] at hk
      obtain ⟨z, hz, e2⟩ := Option.map_eq_some_iff.mp hk
      cases e2
      repeat (walk_at "s")
      refine ite_ndec (fun hne => ?_) (fun heq => ?_)
      · repeat (walk_at "s")
        refine ⟨z.2, b, rfl, ?_⟩
        refine ⟨_, .bl _, ?_⟩
        cases hb : inB z.2 b with
        | true =>
          refine iteT ?_
          repeat (walk_at "s")
          refine ⟨by show 2 ≤ sizeLine; decide, ?_⟩
          rw [barF_site (find_hit hn hz (by rw [decide_eq_true hne, hb]; rfl))] at q
          exact ⟨updM_same, M, by rw [updM_updM, updM_id hs]; exact LeM.refl, q⟩
        | false =>
          refine iteF ?_
          repeat (walk_at "s")
          exact ⟨_, _, _, rfl, rfl, find_miss hn hz (by rw [hb, Bool.and_false])⟩
      · refine iteF ?_
        repeat (walk_at "s")
        exact ⟨_, _, _, rfl, rfl, find_miss hn hz (by rw [decide_eq_false (fun c => c heq)]; rfl)⟩
    · rintro σ M' ⟨x4, x5, x6, rfl, rfl, hn⟩
      have e3 : (dTS st).length = st.length := List.length_map ..
      rw [show (itItmT s (.lkT o xs (dTS st)) (dTS st)).n = st.length from e3, List.take_length] at hn
      exact ⟨updM_same, _, _, _, rfl, by rw [updM_updM, updM_id hs], hn⟩
  rintro σ M' ⟨x4, x5, x6, rfl, rfl, h1⟩
  refine wss_cut (fun σ M2 => ∃ (x4 x5 x6 : Option VV), σ = [some (.str n), some (vbx b), some (.ref s), some (.ref x), x4, x5, x6] ∧ M2 = M' ∧ bx.find? (fun z => meetB b z.2) = none) ?_ ?_
  · refine ws_lock hx fun o xs => ?_
    refine ws_for B (wi_itemsL ?_)
    repeat (walk_at "s")
    refine ⟨x, o, xs, _, rfl, updM_same, ?_⟩
    refine ⟨fun i σ M2 => ∃ (x4 x5 x6 : Option VV), σ = [some (.str n), some (vbx b), some (.ref s), some (.ref x), x4, x5, x6] ∧ M2 = updM M' x (.lk o xs (dS vbx bx)) ∧ (bx.take i).find? (fun z => meetB b z.2) = none, ⟨_, _, _, rfl, rfl, by simp⟩, ?_, ?_, ?_⟩
    · rintro i σ M2 _ ⟨x4, x5, x6, rfl, rfl, _⟩
      exact updM_same
    · rintro i u σ M2 hi ⟨kk, ww, hk, rfl⟩ ⟨x4, x5, x6, rfl, rfl, hn⟩
      rw [List.getElem?_map] at hk
      obtain ⟨z, hz, e2⟩ := Option.map_eq_some_iff.mp hk
      cases e2
      repeat (walk_at "s")
      refine ⟨b, z.2, rfl, ?_⟩
      refine ⟨_, .bl _, ?_⟩
      cases hb : meetB b z.2 with
      | true =>
        refine iteT ?_
        repeat (walk_at "s")
        refine ⟨by show 2 ≤ sizeLine; decide, ?_⟩
        rw [barF_name h1 (find_hit hn hz hb)] at q
        exact ⟨updM_same, M', by rw [updM_updM, updM_id hx]; exact LeM.refl, q⟩
      | false =>
        refine iteF ?_
        repeat (walk_at "s")
        exact ⟨_, _, _, rfl, rfl, find_miss hn hz hb⟩
    · rintro σ M2 ⟨x4, x5, x6, rfl, rfl, hn⟩
      have e3 : (dS vbx bx).length = bx.length := List.length_map ..
      rw [show (itItm x (.lk o xs (dS vbx bx)) (dS vbx bx)).n = bx.length from e3, List.take_length] at hn
      exact ⟨updM_same, _, _, _, rfl, by rw [updM_updM, updM_id hx], hn⟩
  rintro σ M2 ⟨x4, x5, x6, rfl, rfl, h2⟩
  repeat (walk_at "s")
  rw [barF_none h1 h2] at q
  exact ⟨M2, LeM.refl, q⟩
end G3

set_option Elab.async false
set_option linter.all false
set_option maxRecDepth 100000
set_option maxHeartbeats 4000000
set_option pp.maxSteps 1000
namespace G3
open PySem PySem.Spec L2
local macro_rules | `(tactic| walk_at "at") => `(tactic| with_reducible (repeat (first | exact At.here | apply At.there)))
local macro_rules | `(tactic| walk_at "vis") => `(tactic| first | exact Or.inl rfl | exact Or.inr (Or.inl rfl) | exact Or.inr (Or.inr rfl))
local macro_rules | `(tactic| walk_at "loc") => `(tactic| first | exact Or.inl rfl | exact Or.inr rfl)
local macro_rules | `(tactic| walk_at "as") => `(tactic| with_reducible assumption)
local macro_rules | `(tactic| walk_at "e") => `(tactic| first
  | ((with_reducible show G3.WE _ (.Name _ _) _ _ _); first | refine we_nm (by walk_at "as") (by walk_at "at") (by walk_at "vis") (by rfl) ?_ | refine we_tyn (by walk_at "as") (by rfl) (by walk_at "as") (by walk_at "as") ?_ | refine we_cls (C := He.ga _ _) (by walk_at "as") (by rfl) (by walk_at "as") ?_ | refine we_nmH (by walk_at "as") (by walk_at "at") (by walk_at "vis") (by rfl) ?_ | refine we_tynH (by walk_at "as") (by rfl) (by walk_at "as") (by walk_at "as") ?_ | refine we_clsH (C := He.ga _ _) (by walk_at "as") (by rfl) (by walk_at "as") ?_)
  | ((with_reducible show G3.WE _ (.Constant (.int _) _ _) _ _ _); refine we_int ?_)
  | ((with_reducible show G3.WE _ (.Subscript _ (.Slice _ _ (some _) _) _) _ _ _); refine we_rev ?_)
  | ((with_reducible show G3.WE _ (.Subscript _ (.Slice _ _ none _) _) _ _ _); refine we_slice ?_)
  | ((with_reducible show G3.WE _ (.Subscript _ _ _) _ _ _); refine we_ix ?_)
  | ((with_reducible show G3.WE _ (.BinOp _ _ _ _) _ _ _); refine we_op ?_)
  | ((with_reducible show G3.WE _ (.Call (.Name _ _) _ _ _) _ _ _); first
      | refine we_call (by walk_at "as") (by walk_at "as") (by decide) (by rfl) ?_
      | refine we_callB (by walk_at "as") (by rfl) (by walk_at "as") (by walk_at "as") ?_
      | refine we_callTy (by walk_at "as") (by rfl) (by walk_at "as") (by walk_at "as") ?_
      | refine we_callX (by walk_at "as") (by walk_at "as") (by walk_at "as") (by decide) (by rfl) (by walk_at "as") ?_
      | refine we_callBH (by walk_at "as") (by rfl) (by walk_at "as") (by walk_at "as") ?_)
  | ((with_reducible show G3.WE _ (.Attribute _ _ _) _ _ _); first | refine we_fld (by walk_at "as") ?_ | refine we_xfH (by walk_at "as") (by walk_at "as") (by walk_at "as") (by walk_at "as") ?_)
  | ((with_reducible show G3.WE _ (.Tuple _ _ _) _ _ _); refine we_tup ?_)
  | ((with_reducible show G3.WE _ (.List _ _) _ _ _); first | refine we_lstN ?_ | refine we_lst ?_)
  | ((with_reducible show G3.WE _ (.Compare _ [_] _ _) _ _ _); refine we_cmp ?_)
  | ((with_reducible show G3.WE _ (.Compare _ [_, _] _ _) _ _ _); refine we_chain ?_)
  | ((with_reducible show G3.WE _ (.UnaryOp .Not _ _) _ _ _); refine we_not ?_)
  | ((with_reducible show G3.WE _ (.UnaryOp _ _ _) _ _ _); refine we_un ?_)
  | ((with_reducible show G3.WE _ (.IfExp _ _ _ _) _ _ _); refine we_if ?_)
  | ((with_reducible show G3.WE _ (.Constant _ _ _) _ _ _); first | refine we_bl ?_ | refine we_non ?_ | refine we_str ?_)
  | ((with_reducible show G3.WE _ (.JoinedStr (_ :: _ :: _) _) _ _ _); refine we_joined ?_)
  | ((with_reducible show G3.WE _ (.FormattedValue _ _ _ _) _ _ _); refine we_fmt ?_)
  | ((with_reducible show G3.WE _ (.BoolOp _ [_] _) _ _ _); refine we_one ?_)
  | ((with_reducible show G3.WE _ (.BoolOp .And _ _) _ _ _); refine we_and ?_)
  | ((with_reducible show G3.WE _ (.BoolOp .Or _ _) _ _ _); refine we_or ?_))
local macro_rules | `(tactic| walk_at "t") => `(tactic| first
  | ((with_reducible show WT _ (.Compare _ [_] _ _) _ _ _); refine wt_cmp ?_)
  | ((with_reducible show WT _ (.Compare _ [_, _] _ _) _ _ _); refine wt_chain ?_)
  | ((with_reducible show WT _ (.UnaryOp .Not _ _) _ _ _); refine wt_not ?_)
  | ((with_reducible show WT _ (.BoolOp .And _ _) _ _ _); refine wt_w (ww_and ?_))
  | ((with_reducible show WT _ (.BoolOp .Or _ _) _ _ _); refine wt_w (ww_or ?_))
  | refine wt_truth ?_)
local macro_rules | `(tactic| walk_at "w") => `(tactic| first
  | ((with_reducible show WW _ (.BoolOp .And [_] _) _ _ _); refine ww_and1 ?_)
  | ((with_reducible show WW _ (.BoolOp .Or [_] _) _ _ _); refine ww_or1 ?_)
  | ((with_reducible show WW _ (.BoolOp .And _ _) _ _ _); refine ww_and ?_)
  | ((with_reducible show WW _ (.BoolOp .Or _ _) _ _ _); refine ww_or ?_))
local macro_rules | `(tactic| walk_at "st") => `(tactic| first
  | ((with_reducible show WS _ (.Assign [.Name _ _] (.ListComp _ _ _ _) _) _ _ _); fail)
  | ((with_reducible show WS _ (.Assign [.Name _ _] _ _) _ _ _); first | refine ws_set (by walk_at "as") (by walk_at "at") (by walk_at "loc") ?_ | refine ws_setH (by walk_at "as") (by walk_at "at") (by walk_at "loc") ?_)
  | ((with_reducible show WS _ (.Return (some _) _) _ _ _); refine ws_ret ?_)
  | ((with_reducible show WS _ (.If _ _ _ _) _ _ _); refine ws_if ?_)
  | ((with_reducible show WS _ (.Expr (.Call (.Attribute _ "append" _) _ _ _) _) _ _ _); refine ws_append ?_)
  | ((with_reducible show WS _ (.Expr (.Call (.Attribute _ "insert" _) _ _ _) _) _ _ _); refine ws_insert ?_)
  | ((with_reducible show WS _ (.Expr _ _) _ _ _); refine ws_expr ?_)
  | ((with_reducible show WS _ (.Assign [.Tuple _ _ _] (.Tuple _ _ _) _) _ _ _); first
      | refine ws_par2 (by walk_at "as") (by walk_at "at") (by walk_at "at") (by rfl) (by rfl) (by rfl) (by rfl) ?_
      | refine ws_asgT (by walk_at "as") (by rfl) ?_)
  | ((with_reducible show WS _ (.Raise (some _) none _) _ _ _); refine ws_raise (by walk_at "as") (by walk_at "as") ?_)
  | ((with_reducible show WS _ (.Assign [_] _ _) _ _ _); (fail_if_success (with_reducible show WS _ (.Assign [.Attribute _ _ _] _ _) _ _ _)); refine ws_asg ?_)
  | ((with_reducible show WS _ (.Return none _) _ _ _); refine ws_retN ?_)
  | ((with_reducible show WS _ (.Pass _) _ _ _); refine ws_pass ?_)
  | ((with_reducible show WS _ (.Break _) _ _ _); refine ws_break ?_)
  | ((with_reducible show WS _ (.Continue _) _ _ _); refine ws_continue ?_))
local macro_rules | `(tactic| walk_at "mul") => `(tactic| with_unfolding_all first
  | exact cml (by decide) (by decide)
  | exact cmr (by decide) (by decide)
  | exact cmw (by with_reducible assumption) (by with_reducible assumption) (by decide) (by decide) (by decide)
  | exact cml (by omega) (by omega)
  | exact cmr (by omega) (by omega))
local macro_rules | `(tactic| walk_at "o2") => `(tactic| with_reducible first
  | refine o2_add ?_
  | refine o2_sub ?_
  | refine o2_mul (by walk_at "mul") ?_
  | refine o2_lt ?_
  | refine o2_le ?_
  | refine o2_gt ?_
  | refine o2_ge ?_
  | refine o2_eqi ?_
  | refine o2_nei ?_
  | refine o2_eqb ?_
  | refine o2_neb ?_
  | refine o2_eqs ?_
  | refine o2_nes ?_
  | refine o2_isN ?_
  | refine o2_notN ?_)
local macro_rules | `(tactic| walk_at "x") => `(tactic| first
  | ((with_reducible show G3.WE _ _ _ _ _); walk_at "e")
  | ((with_reducible show WA _ _ _ _ _); first | refine wa_cons ?_ | refine wa_nil ?_)
  | ((with_reducible show WMk _ (.Call (.Name _ _) [] _ _) _ _ _); refine wmk_own0 (by walk_at "as") (by walk_at "as") (by decide) (by rfl) ?_)
  | ((with_reducible show WO _ _ _ _ _); first | (show G3.WE _ _ _ _ _))
  | ((with_reducible show WT _ _ _ _ _); walk_at "t")
  | ((with_reducible show G3.WJ _ _ _ _ _ _); first | refine wj_cons ?_ | refine wj_nil ?_)
  | ((with_reducible show G3.WK _ _ _ _ _); first | refine wk_cons ?_ | refine wk_nil ?_)
  | ((with_reducible show WW _ _ _ _ _); walk_at "w")
  | ((with_reducible show WS _ _ _ _ _); walk_at "st")
  | ((with_reducible show O2 _ _ _ _ _ _); walk_at "o2")
  | ((with_reducible show OI _ (.tup _) _ _ _); refine oi_tup rfl ?_)
  | ((with_reducible show OC _ _ _ _ _); with_reducible first | refine oc_abs ?_ | refine oc_int ?_ | refine oc_intb ?_ | refine oc_lenT ?_)
  | ((with_reducible show O1 _ _ _ _ _); refine o1_neg ?_)
  | ((with_reducible show BQ _ _ _); refine ⟨_, rfl, ?_⟩)
  | ((with_reducible show WG _ _ _ _ _ _); first | refine wg_name (by walk_at "as") (by walk_at "at") (by walk_at "loc") ?_ | refine wg_tup (by walk_at "as") ?_)
  | ((with_reducible show WGs _ _ _ _ _ _); first | refine wgs_cons (by walk_at "as") (by walk_at "at") (by walk_at "loc") ?_ | refine wgs_nil ?_))
local macro_rules | `(tactic| walk_at "s") => `(tactic| first
  | walk_at "x"
  | ((with_reducible show WSs _ _ _ _ _); first | refine wss_cons ?_ | refine wss_nil ?_))
theorem df_lettered {E : Ev} {P : Addr} (hSd : ∃ a, E.mg "SIDES" = some (.ref a) ∧ ∀ H, Rv E.K H (.ref a) (.tup (([0, 1, 2, 3] : List Nat).map fun k => VV.str (sideS k)))) (D1 : E.df 1 "by_rank" ["sites"] (spByRank P)) (D2 : E.df 2 "standing" ["sites"] (spStanding P)) (D3 : E.df 2 "barring" ["name", "box", "stands", "boxes"] spBarring) (D4 : E.df 1 "box_at" ["pair", "name", "letter", "side"] spBoxAt)
    (T : Tx E "lettered" (top 8) ["sites", "letter"]) : E.df 3 "lettered" ["sites", "letter"] (spLettered P) := by
  obtain ⟨aS, mS, rS⟩ := hSd
  refine T.df ["sites", "letter", "stands", "boxes", "found", "name", "pair", "bars", "side"] ⟨rfl, rfl, rfl, by decide +kernel, rfl, by decide +kernel, by decide +kernel⟩ (fun ws M Q ⟨_, _, _, e, _⟩ => by rw [e]; rfl) fun X B ws M Q ⟨d, l, t, e, hd, hP, ok, q⟩ => ?_
  subst e
  have hu : X.A.units + 65 < cLine := by have := B.room.un; omega
  have on := ord_nd ok.d
  have ol := ord_len l
  have oln : (ordF l).length ≤ 20 := by rw [ol]; exact ok.len
  show WSs X _ [some (.ref d), some (.int t), none, none, none, none, none, none, none] M _
  repeat (walk_at "s")
  refine ⟨d, l, rfl, .inl hd, hP, ok.d, ok.len, fun S M1 nS l1 hS => ?_⟩
  repeat (walk_at "s")
  refine we_dnewN fun Bo M2 nB l2 hB => ?_
  repeat (walk_at "s")
  refine we_dnewN fun F M3 nF l3 hF => ?_
  have hB0 := hB
  have l03 := l1.trans (l2.trans l3)
  replace hS := l3 _ _ (l2 _ _ hS)
  replace hB := l3 _ _ hB
  have nBM : M Bo = none := l1.none nB
  have nFM : M F = none := l1.none (l2.none nF)
  have SB : S ≠ Bo := fun z => by subst z; rw [hS] at hB; cases hB
  have SF : S ≠ F := fun z => by subst z; rw [hS] at hF; cases hF
  have BF : Bo ≠ F := fun z => by subst z; rw [hB0] at nF; cases nF
  clear l1 l2 l3 nS nB nF hB0
  -- the loop
  generalize hst : standF (prF l) (ordF l) = st at hS
  have lt_eq : ∀ n, ltOf (prF l) t (ordF l) n = if isSt (prF l) (ordF l) n = true then (oneF st (prF l n) t n (boxesF st (prF l) t (((ordF l).filter (isSt (prF l) (ordF l))).takeWhile fun m => decide (m ≠ n)))).1 else .under ((headAt st (prF l n)).getD n) := fun n => by rw [← hst]; rfl
  have stm : ∀ z ∈ st, z.1 ∈ ordF l := by
    have := (stand_ok (prF l) on (ordF l).length (Nat.le_refl _)).m
    rw [List.take_length, hst] at this
    exact this
  have stl : st.length ≤ 20 := by
    have h1 := congrArg List.length (stand_all (prF l) on)
    rw [List.length_map, hst] at h1
    rw [h1]
    exact Nat.le_trans (List.length_filter_le _ _) oln
  have nmok : ∀ n ∈ ordF l, Nme n := fun n hn => by
    obtain ⟨p, hp, e⟩ := List.mem_map.mp (ord_mem.mp hn)
    rw [← e]; exact ok.nm p hp
  have bxm : ∀ i, ∀ z ∈ boxesF st (prF l) t (((ordF l).take i).filter (isSt (prF l) (ordF l))), z.1 ∈ (ordF l).take i := fun i z hz => by
    have := (boxesF_keys st (prF l) t (((ordF l).take i).filter (isSt (prF l) (ordF l)))).subset (List.mem_map.mpr ⟨z, hz, rfl⟩)
    exact (List.mem_filter.mp this).1
  have bxl : ∀ i, (boxesF st (prF l) t (((ordF l).take i).filter (isSt (prF l) (ordF l)))).length ≤ 20 := fun i => Nat.le_trans (boxesF_len _ _ _ _) (Nat.le_trans (List.length_filter_le _ _) (by rw [List.length_take]; omega))
  have q' : ∀ r ps M2, M r = none → LeM M M2 → M2 r = some (.dK (lettK ps (ltOf (prF l) t (ordF l)) (ordF l))) → Psk M M2 ps (ltOf (prF l) t (ordF l)) (ordF l) → Q (.ref r) M2 := q
  clear q
  generalize ltOf (prF l) t (ordF l) = lt at lt_eq q'
  refine wss_cut (fun σ M' => ∃ ps, ∃ (x5 x6 x7 x8 : Option VV), σ = [some (.ref d), some (.int t), some (.ref S), some (.ref Bo), some (.ref F), x5, x6, x7, x8] ∧ LeM M M' ∧ M' F = some (.dK (lettK ps lt (ordF l))) ∧ Psk M M' ps lt (ordF l)) ?_ ?_
  · refine ws_forLst B ?_
    repeat (walk_at "s")
    refine ⟨d, l, rfl, .inl (l03 _ _ hd), l03 _ _ hP, fun L M4 nL l4 hL => ?_⟩
    have LF : L ≠ F := fun z => by subst z; rw [hF] at nL; cases nL
    have LB : L ≠ Bo := fun z => by subst z; rw [hB] at nL; cases nL
    refine ⟨_, .ref hL, fun i σ M' => ∃ ps, ∃ (x5 x6 x7 x8 : Option VV), σ = [some (.ref d), some (.int t), some (.ref S), some (.ref Bo), some (.ref F), x5, x6, x7, x8] ∧ LeM M M' ∧ M' L = some (.lst ((ordF l).map .str)) ∧ M' S = some (.dT (dTS st)) ∧ M' Bo = some (.dK (dS vbx (boxesF st (prF l) t (((ordF l).take i).filter (isSt (prF l) (ordF l)))))) ∧ M' F = some (.dK (lettK ps lt ((ordF l).take i))) ∧ Psk M M' ps lt ((ordF l).take i),
      ⟨fun _ => 0, _, _, _, _, rfl, l03.trans l4, hL, l4 _ _ hS, l4 _ _ hB, l4 _ _ hF, .nil⟩, ?_, ?_, ?_⟩
    · rintro i σ M' _ ⟨ps, x5, x6, x7, x8, rfl, _, h, _⟩
      exact .ref h
    · rintro i u σ M5 hi hu ⟨ps, x5, x6, x7, x8, rfl, l5, hL5, hS5, hB5, hF5, pk⟩
      rw [List.length_map] at hi
      have hn := some_of hi
      rw [List.getElem?_map, hn] at hu
      cases hu
      have hmem := List.mem_of_getElem? hn
      generalize (ordF l)[i] = n at hn hmem
      obtain ⟨s, hs, es, _⟩ := ord_get hmem
      have nti := not_in_take on hn
      have tk : (ordF l).take (i + 1) = (ordF l).take i ++ [n] := by rw [List.take_add_one, hn]; rfl
      have nme := nmok n hmem
      have nle : n.length ≤ 100 := by
        have nme : nmB n = true := nme
        unfold nmB at nme
        simp only [Bool.and_eq_true] at nme
        have := of_decide_eq_true nme.1.2
        omega
      have fl : (lettK ps lt ((ordF l).take i)).length < sizeLine := Nat.lt_of_le_of_lt (by rw [List.length_map, List.length_take]; exact Nat.le_trans (Nat.min_le_left _ _) (Nat.le_of_lt hi)) (Nat.lt_of_le_of_lt oln (by decide))
      have hd5 := l5 _ _ hd
      have lti := lt_eq n
      rw [es] at lti
      repeat (walk_at "s")
      refine oi_dS B (.inl hd5) hs ?_
      repeat (walk_at "s")
      -- who heads the pair
      cases hst2 : isSt (prF l) (ordF l) n with
      | false =>
        rw [hst2] at lti
        obtain ⟨a1, a2⟩ := stand_at (prF l) on hn
        obtain ⟨o, ho, on2⟩ : ∃ o, headAt st s.1 = some o ∧ o ≠ n := by
          cases h0 : headAt (standF (prF l) ((ordF l).take i)) (prF l n) with
          | none => rw [(a1 h0).1] at hst2; cases hst2
          | some o =>
            obtain ⟨_, e3, _⟩ := a2 o h0
            rw [hst, es] at e3
            refine ⟨o, e3, fun z => ?_⟩
            unfold isSt at hst2
            rw [hst, es, e3, z] at hst2
            exact absurd rfl (of_decide_eq_false hst2)
        rw [ho] at lti
        have lti : lt n = .under o := lti
        refine oi_dT B (.inl hS5) ho ?_
        repeat (walk_at "s")
        rw [decide_eq_false on2]
        refine iteT ?_
        repeat (walk_at "s")
        refine oi_dT B (.inl hS5) ho ?_
        repeat (walk_at "s")
        refine ⟨by show 2 ≤ sizeLine; decide, ?_⟩
        refine wg_sub ?_
        repeat (walk_at "s")
        refine oset_dK B (.inr n) hF5 fl ?_
        rw [putW_new (lett_none nti)]
        repeat (walk_at "s")
        refine ⟨ps, _, _, _, _, rfl, l5.put nFM, by rw [updM_ne LF]; exact hL5, by rw [updM_ne SF]; exact hS5, ?_, ?_, ?_⟩
        · rw [updM_ne BF, hB5, tk, List.filter_append]
          simp [hst2]
        · rw [updM_same, tk, lett_snoc (v := .tup [.str "under", .str o]) (congrArg (ltv (ps n)) lti)]
        · rw [tk]
          exact (pk.putD hF5).no (by rw [lti]; rfl)
      | true =>
        rw [hst2, stand_before on hn hst2] at lti
        have ho : headAt st s.1 = some n := by
          unfold isSt at hst2
          rw [hst, es] at hst2
          exact of_decide_eq_true hst2
        have bxs : boxesF st (prF l) t (((ordF l).take (i + 1)).filter (isSt (prF l) (ordF l))) = (oneF st s.1 t n (boxesF st (prF l) t (((ordF l).take i).filter (isSt (prF l) (ordF l))))).2 := by
          rw [tk, List.filter_append]
          simp only [List.filter_cons, hst2, if_true, List.filter_nil]
          rw [boxesF_snoc, es]
        have bxm5 := bxm i
        have bxl5 := bxl i
        generalize boxesF st (prF l) t (((ordF l).take i).filter (isSt (prF l) (ordF l))) = bx at lti bxs hB5 bxm5 bxl5
        have nbx : n ∉ bx.map (·.1) := fun z => by
          obtain ⟨y, hy, e⟩ := List.mem_map.mp z
          exact nti (e ▸ bxm5 y hy)
        have bok : ∀ b ∈ barsF st s.1 t n bx, BarOk b := bars_ok (fun z hz => (nmok _ (stm z hz)).ok) (fun z hz => (nmok _ (List.mem_of_mem_take (bxm5 z hz))).ok)
        refine oi_dT B (.inl hS5) ho ?_
        repeat (walk_at "s")
        rw [decide_eq_true rfl]
        refine iteF ?_
        repeat (walk_at "s")
        refine ws_setLc B [("side", 8)] (by walk_at "at") (by rfl) (by rfl) (by decide +kernel) (by decide) (pgI1 B (by walk_at "at") (by rfl)) ctg_name ?_
        refine wi_tup ?_
        refine we_glr B (by rfl) mS rS ?_
        refine ⟨_, rfl, ?_⟩
        refine compI_map [0, 1, 2, 3] (itm_tup (by show 4 ≤ sizeLine; decide)) (fun k => vbar (barF n (sideF s.1 n t k) st bx)) ?_ ?_
        · rintro k u M6 hk rfl l6
          refine ⟨_, rfl, fun Y BY => ?_⟩
          show WE Y _ [some (.ref d), some (.int t), some (.ref S), some (.ref Bo), some (.ref F), some (.str n), some (vpf s.1), x7, some (.str (sideS k))] M6 _
          have hk4 : k < 4 := by simp at hk; omega
          repeat (walk_at "s")
          refine ⟨s.1, n, t, k, rfl, hk4, nle, ok.t0, ok.t1, ?_⟩
          repeat (walk_at "s")
          refine ⟨n, _, S, Bo, st, bx, rfl, l6 _ _ hS5, l6 _ _ hB5, by omega, by omega, ?_⟩
          exact ⟨rfl, LeM.refl⟩
        intro D nD M6 l6
        have hD : M6 D = some (.lst ((barsF st s.1 t n bx).map vbar)) := l6 _ _ updM_same
        have l56 := (LeM.new nD).trans l6
        have l06 := l5.trans l56
        have nDM : M D = none := l5.none nD
        replace hL5 := l56 _ _ hL5
        replace hS5 := l56 _ _ hS5
        replace hB5 := l56 _ _ hB5
        have hF6 := l56 _ _ hF5
        have pk6 := pk.le l56
        have fr : ∀ m ∈ (ordF l).take i, isBar (lt m) = true → ps m ≠ D := fun m hm eb z => by
          cases hlm : lt m with
          | barred bs =>
            have := (pk.at_ m hm bs hlm).1
            rw [z, nD] at this; cases this
          | under o => rw [hlm] at eb; cases eb
          | laid k b => rw [hlm] at eb; cases eb
        clear l6 l56 nD
        show WSs X _ [some (.ref d), some (.int t), some (.ref S), some (.ref Bo), some (.ref F), some (.str n), some (vpf s.1), some (.ref D), x8] M6 _
        repeat (walk_at "s")
        refine o2_inBars hu hD bok ?_
        refine ⟨_, rfl, ?_⟩
        cases hf : (barsF st s.1 t n bx).findIdx? (fun b => b.isNone) with
        | some k =>
          obtain ⟨k4, bk, bno, bmem⟩ := bars_at hf
          have e1 : oneF st s.1 t n bx = (.laid k (sideF s.1 n t k), bx ++ [(n, sideF s.1 n t k)]) := by unfold oneF; rw [hf]
          rw [e1] at lti bxs
          have lti : lt n = .laid k (sideF s.1 n t k) := lti
          refine iteT ?_
          repeat (walk_at "s")
          refine we_glr B (by rfl) mS rS ?_
          repeat (walk_at "s")
          refine we_lindex (α := Option Bar) hu ?_
          repeat (walk_at "s")
          refine ⟨D, _, rfl, hD, ?_⟩
          repeat (walk_at "s")
          refine ⟨barsF st s.1 t n bx, none, k, .non, dw_lst dw_vbar (.ref hD), bar_sh, bars_sh bok, bk, bno, ?_⟩
          refine oi_tup (w := .str (sideS k)) (atI_nat (j := k) (by
            match k, k4 with
            | 0, _ => rfl
            | 1, _ => rfl
            | 2, _ => rfl
            | 3, _ => rfl)) ?_
          repeat (walk_at "s")
          refine ⟨s.1, n, t, k, rfl, k4, nle, ok.t0, ok.t1, ?_⟩
          refine wg_sub ?_
          repeat (walk_at "s")
          refine oset_dK B (.inr n) hB5 (by rw [List.length_map]; exact Nat.lt_of_le_of_lt bxl5 (by decide)) ?_
          rw [putW_new (box_none nbx)]
          have eB : dS vbx bx ++ [((Sum.inr n : Key), vbx (sideF s.1 n t k))] = dS vbx (bx ++ [(n, sideF s.1 n t k)]) := by simp only [dS, List.map_append, List.map_cons, List.map_nil]
          rw [eB]
          have l07 := l06.put (o := .dK (dS vbx (bx ++ [(n, sideF s.1 n t k)]))) nBM
          have hB7 : updM M6 Bo (.dK (dS vbx (bx ++ [(n, sideF s.1 n t k)]))) Bo = some (.dK (dS vbx (bx ++ [(n, sideF s.1 n t k)]))) := updM_same
          have hF7 : updM M6 Bo (.dK (dS vbx (bx ++ [(n, sideF s.1 n t k)]))) F = some (.dK (lettK ps lt ((ordF l).take i))) := by rw [updM_ne BF.symm]; exact hF6
          have hS7 : updM M6 Bo (.dK (dS vbx (bx ++ [(n, sideF s.1 n t k)]))) S = some (.dT (dTS st)) := by rw [updM_ne SB]; exact hS5
          have hL7 : updM M6 Bo (.dK (dS vbx (bx ++ [(n, sideF s.1 n t k)]))) L = some (.lst ((ordF l).map .str)) := by rw [updM_ne LB]; exact hL5
          have pk7 := pk6.putD (o := .dK (dS vbx (bx ++ [(n, sideF s.1 n t k)]))) hB5
          generalize updM M6 Bo (.dK (dS vbx (bx ++ [(n, sideF s.1 n t k)]))) = M7 at l07 hB7 hF7 hS7 hL7 pk7
          repeat (walk_at "s")
          refine oi_dS B (.inl hB7) (getS_snoc nbx) ?_
          repeat (walk_at "s")
          refine ⟨by show 3 ≤ sizeLine; decide, ?_⟩
          refine wg_sub ?_
          repeat (walk_at "s")
          refine oset_dK B (.inr n) hF7 fl ?_
          rw [putW_new (lett_none nti)]
          repeat (walk_at "s")
          refine ⟨ps, _, _, _, _, rfl, l07.put nFM, by rw [updM_ne LF]; exact hL7, by rw [updM_ne SF]; exact hS7, by rw [updM_ne BF, hB7, bxs], ?_, ?_⟩
          · rw [updM_same, tk, lett_snoc (v := .tup [.str "laid", .str (sideS k), vbx (sideF s.1 n t k)]) (congrArg (ltv (ps n)) lti)]
          · rw [tk]
            exact (pk7.putD hF7).no (by rw [lti]; rfl)
        | none =>
          have e1 : oneF st s.1 t n bx = (.barred (barsF st s.1 t n bx), bx) := by unfold oneF; rw [hf]
          rw [e1] at lti bxs
          have lti : lt n = .barred (barsF st s.1 t n bx) := lti
          refine iteF ?_
          repeat (walk_at "s")
          refine ⟨by show 2 ≤ sizeLine; decide, ?_⟩
          refine wg_sub ?_
          repeat (walk_at "s")
          refine oset_dK B (.inr n) hF6 fl ?_
          rw [putW_new (lett_none nti)]
          repeat (walk_at "s")
          refine ⟨fun m => if m = n then D else ps m, _, _, _, _, rfl, l06.put nFM, by rw [updM_ne LF]; exact hL5, by rw [updM_ne SF]; exact hS5, by rw [updM_ne BF, hB5, bxs], ?_, ?_⟩
          · have c : lettK ps lt ((ordF l).take i) = lettK (fun m => if m = n then D else ps m) lt ((ordF l).take i) := lett_congr fun m hm => by
              show ps m = if m = n then D else ps m
              exact (if_neg (fun z : m = n => nti (z ▸ hm))).symm
            rw [updM_same, tk, lett_snoc (v := .tup [.str "barred", .ref D]) (by rw [lti, if_pos rfl]; rfl), c]
          · rw [tk]
            have DF : D ≠ F := fun z => by subst z; rw [hF6] at hD; cases hD
            exact (pk6.putD hF6).bar nti lti (by rw [updM_ne DF]; exact hD) nDM fr
    · rintro σ M5 ⟨ps, x5, x6, x7, x8, rfl, l5, _, _, _, hF5, pk⟩
      rw [List.length_map, List.take_length] at hF5 pk
      exact ⟨ps, _, _, _, _, rfl, l5, hF5, pk⟩
  rintro σ M5 ⟨ps, x5, x6, x7, x8, rfl, l5, hF5, pk⟩
  repeat (walk_at "s")
  exact ⟨M5, LeM.refl, q' F ps M5 nFM l5 hF5 pk⟩
theorem df_lholds {E : Ev} {P : Addr} (D1 : E.df 3 "lettered" ["sites", "letter"] (spLettered P)) (T : Tx E "lettered_holds" (top 9) ["sites", "letter", "told"]) : E.df 4 "lettered_holds" ["sites", "letter", "told"] (spLHolds P) := by
  refine T.df ["sites", "letter", "told"] ⟨rfl, rfl, rfl, by decide +kernel, rfl, by decide +kernel, by decide +kernel⟩ (fun ws M Q ⟨_, _, _, _, _, e, _⟩ => by rw [e]; rfl) fun X B ws M Q ⟨s, d, l, t, tl, e, hs, hP, ok, hd, tk, q⟩ => ?_
  subst e
  have hu : X.A.units + 65 < cLine := by have := B.room.un; omega
  show WSs X _ [some (.ref s), some (.int t), some (.ref d)] M _
  repeat (walk_at "s")
  refine ⟨s, l, t, rfl, hs, hP, ok, fun F ps M2 nF l2 hF pk => ?_⟩
  have on := ord_nd ok.d
  have p2 : ∀ n ∈ ordF l, ∀ bs, ltOf (prF l) t (ordF l) n = .barred bs → M2 (ps n) = some (.lst (bs.map vbar)) := fun n hn bs e => (pk.at_ n hn bs e).1
  rw [ltL_is] at hF
  refine o2_eqDD (f := vla) (δ := laD) (n := 20) (n2 := 20) (by omega) (l2 _ _ hd) hF (tk.le l2).dt (ltL_ok p2).dt ?_
  rw [ltL_eq (ps' := fun _ => 0) on (.refl _)]
  exact ⟨M2, LeM.refl, q M2 l2⟩
end G3

set_option Elab.async false
set_option linter.all false
set_option maxRecDepth 100000
set_option maxHeartbeats 4000000
set_option pp.maxSteps 1000
namespace G3
open PySem PySem.Spec L2
local macro_rules | `(tactic| walk_at "at") => `(tactic| with_reducible (repeat (first | exact At.here | apply At.there)))
local macro_rules | `(tactic| walk_at "vis") => `(tactic| first | exact Or.inl rfl | exact Or.inr (Or.inl rfl) | exact Or.inr (Or.inr rfl))
local macro_rules | `(tactic| walk_at "loc") => `(tactic| first | exact Or.inl rfl | exact Or.inr rfl)
local macro_rules | `(tactic| walk_at "as") => `(tactic| with_reducible assumption)
local macro_rules | `(tactic| walk_at "e") => `(tactic| first
  | ((with_reducible show G3.WE _ (.Name _ _) _ _ _); first | refine we_nm (by walk_at "as") (by walk_at "at") (by walk_at "vis") (by rfl) ?_ | refine we_tyn (by walk_at "as") (by rfl) (by walk_at "as") (by walk_at "as") ?_ | refine we_cls (C := He.ga _ _) (by walk_at "as") (by rfl) (by walk_at "as") ?_ | refine we_nmH (by walk_at "as") (by walk_at "at") (by walk_at "vis") (by rfl) ?_ | refine we_tynH (by walk_at "as") (by rfl) (by walk_at "as") (by walk_at "as") ?_ | refine we_clsH (C := He.ga _ _) (by walk_at "as") (by rfl) (by walk_at "as") ?_)
  | ((with_reducible show G3.WE _ (.Constant (.int _) _ _) _ _ _); refine we_int ?_)
  | ((with_reducible show G3.WE _ (.Subscript _ (.Slice _ _ (some _) _) _) _ _ _); refine we_rev ?_)
  | ((with_reducible show G3.WE _ (.Subscript _ (.Slice _ _ none _) _) _ _ _); refine we_slice ?_)
  | ((with_reducible show G3.WE _ (.Subscript _ _ _) _ _ _); refine we_ix ?_)
  | ((with_reducible show G3.WE _ (.BinOp _ _ _ _) _ _ _); refine we_op ?_)
  | ((with_reducible show G3.WE _ (.Call (.Name _ _) _ _ _) _ _ _); first
      | refine we_call (by walk_at "as") (by walk_at "as") (by decide) (by rfl) ?_
      | refine we_callB (by walk_at "as") (by rfl) (by walk_at "as") (by walk_at "as") ?_
      | refine we_callTy (by walk_at "as") (by rfl) (by walk_at "as") (by walk_at "as") ?_
      | refine we_callX (by walk_at "as") (by walk_at "as") (by walk_at "as") (by decide) (by rfl) (by walk_at "as") ?_
      | refine we_callBH (by walk_at "as") (by rfl) (by walk_at "as") (by walk_at "as") ?_)
  | ((with_reducible show G3.WE _ (.Attribute _ _ _) _ _ _); first | refine we_fld (by walk_at "as") ?_ | refine we_xfH (by walk_at "as") (by walk_at "as") (by walk_at "as") (by walk_at "as") ?_)
  | ((with_reducible show G3.WE _ (.Tuple _ _ _) _ _ _); refine we_tup ?_)
  | ((with_reducible show G3.WE _ (.List _ _) _ _ _); first | refine we_lstN ?_ | refine we_lst ?_)
  | ((with_reducible show G3.WE _ (.Compare _ [_] _ _) _ _ _); refine we_cmp ?_)
  | ((with_reducible show G3.WE _ (.Compare _ [_, _] _ _) _ _ _); refine we_chain ?_)
  | ((with_reducible show G3.WE _ (.UnaryOp .Not _ _) _ _ _); refine we_not ?_)
  | ((with_reducible show G3.WE _ (.UnaryOp _ _ _) _ _ _); refine we_un ?_)
  | ((with_reducible show G3.WE _ (.IfExp _ _ _ _) _ _ _); refine we_if ?_)
  | ((with_reducible show G3.WE _ (.Constant _ _ _) _ _ _); first | refine we_bl ?_ | refine we_non ?_ | refine we_str ?_)
  | ((with_reducible show G3.WE _ (.JoinedStr (_ :: _ :: _) _) _ _ _); refine we_joined ?_)
  | ((with_reducible show G3.WE _ (.FormattedValue _ _ _ _) _ _ _); refine we_fmt ?_)
  | ((with_reducible show G3.WE _ (.BoolOp _ [_] _) _ _ _); refine we_one ?_)
  | ((with_reducible show G3.WE _ (.BoolOp .And _ _) _ _ _); refine we_and ?_)
  | ((with_reducible show G3.WE _ (.BoolOp .Or _ _) _ _ _); refine we_or ?_))
local macro_rules | `(tactic| walk_at "t") => `(tactic| first
  | ((with_reducible show WT _ (.Compare _ [_] _ _) _ _ _); refine wt_cmp ?_)
  | ((with_reducible show WT _ (.Compare _ [_, _] _ _) _ _ _); refine wt_chain ?_)
  | ((with_reducible show WT _ (.UnaryOp .Not _ _) _ _ _); refine wt_not ?_)
  | ((with_reducible show WT _ (.BoolOp .And _ _) _ _ _); refine wt_w (ww_and ?_))
  | ((with_reducible show WT _ (.BoolOp .Or _ _) _ _ _); refine wt_w (ww_or ?_))
  | refine wt_truth ?_)
local macro_rules | `(tactic| walk_at "w") => `(tactic| first
  | ((with_reducible show WW _ (.BoolOp .And [_] _) _ _ _); refine ww_and1 ?_)
  | ((with_reducible show WW _ (.BoolOp .Or [_] _) _ _ _); refine ww_or1 ?_)
  | ((with_reducible show WW _ (.BoolOp .And _ _) _ _ _); refine ww_and ?_)
  | ((with_reducible show WW _ (.BoolOp .Or _ _) _ _ _); refine ww_or ?_))
local macro_rules | `(tactic| walk_at "st") => `(tactic| first
  | ((with_reducible show WS _ (.Assign [.Name _ _] (.ListComp _ _ _ _) _) _ _ _); fail)
  | ((with_reducible show WS _ (.Assign [.Name _ _] _ _) _ _ _); first | refine ws_set (by walk_at "as") (by walk_at "at") (by walk_at "loc") ?_ | refine ws_setH (by walk_at "as") (by walk_at "at") (by walk_at "loc") ?_)
  | ((with_reducible show WS _ (.Return (some _) _) _ _ _); refine ws_ret ?_)
  | ((with_reducible show WS _ (.If _ _ _ _) _ _ _); refine ws_if ?_)
  | ((with_reducible show WS _ (.Expr (.Call (.Attribute _ "append" _) _ _ _) _) _ _ _); refine ws_append ?_)
  | ((with_reducible show WS _ (.Expr (.Call (.Attribute _ "insert" _) _ _ _) _) _ _ _); refine ws_insert ?_)
  | ((with_reducible show WS _ (.Expr _ _) _ _ _); refine ws_expr ?_)
  | ((with_reducible show WS _ (.Assign [.Tuple _ _ _] (.Tuple _ _ _) _) _ _ _); first
      | refine ws_par2 (by walk_at "as") (by walk_at "at") (by walk_at "at") (by rfl) (by rfl) (by rfl) (by rfl) ?_
      | refine ws_asgT (by walk_at "as") (by rfl) ?_)
  | ((with_reducible show WS _ (.Raise (some _) none _) _ _ _); refine ws_raise (by walk_at "as") (by walk_at "as") ?_)
  | ((with_reducible show WS _ (.Assign [_] _ _) _ _ _); (fail_if_success (with_reducible show WS _ (.Assign [.Attribute _ _ _] _ _) _ _ _)); refine ws_asg ?_)
  | ((with_reducible show WS _ (.Return none _) _ _ _); refine ws_retN ?_)
  | ((with_reducible show WS _ (.Pass _) _ _ _); refine ws_pass ?_)
  | ((with_reducible show WS _ (.Break _) _ _ _); refine ws_break ?_)
  | ((with_reducible show WS _ (.Continue _) _ _ _); refine ws_continue ?_))
local macro_rules | `(tactic| walk_at "mul") => `(tactic| with_unfolding_all first
  | exact cml (by decide) (by decide)
  | exact cmr (by decide) (by decide)
  | exact cmw (by with_reducible assumption) (by with_reducible assumption) (by decide) (by decide) (by decide)
  | exact cml (by omega) (by omega)
  | exact cmr (by omega) (by omega))
local macro_rules | `(tactic| walk_at "o2") => `(tactic| with_reducible first
  | refine o2_add ?_
  | refine o2_sub ?_
  | refine o2_mul (by walk_at "mul") ?_
  | refine o2_lt ?_
  | refine o2_le ?_
  | refine o2_gt ?_
  | refine o2_ge ?_
  | refine o2_eqi ?_
  | refine o2_nei ?_
  | refine o2_eqb ?_
  | refine o2_neb ?_
  | refine o2_eqs ?_
  | refine o2_nes ?_
  | refine o2_isN ?_
  | refine o2_notN ?_)
local macro_rules | `(tactic| walk_at "x") => `(tactic| first
  | ((with_reducible show G3.WE _ _ _ _ _); walk_at "e")
  | ((with_reducible show WA _ _ _ _ _); first | refine wa_cons ?_ | refine wa_nil ?_)
  | ((with_reducible show WMk _ (.Call (.Name _ _) [] _ _) _ _ _); refine wmk_own0 (by walk_at "as") (by walk_at "as") (by decide) (by rfl) ?_)
  | ((with_reducible show WO _ _ _ _ _); first | (show G3.WE _ _ _ _ _))
  | ((with_reducible show WT _ _ _ _ _); walk_at "t")
  | ((with_reducible show G3.WJ _ _ _ _ _ _); first | refine wj_cons ?_ | refine wj_nil ?_)
  | ((with_reducible show G3.WK _ _ _ _ _); first | refine wk_cons ?_ | refine wk_nil ?_)
  | ((with_reducible show WW _ _ _ _ _); walk_at "w")
  | ((with_reducible show WS _ _ _ _ _); walk_at "st")
  | ((with_reducible show O2 _ _ _ _ _ _); walk_at "o2")
  | ((with_reducible show OI _ (.tup _) _ _ _); refine oi_tup rfl ?_)
  | ((with_reducible show OC _ _ _ _ _); with_reducible first | refine oc_abs ?_ | refine oc_int ?_ | refine oc_intb ?_ | refine oc_lenT ?_)
  | ((with_reducible show O1 _ _ _ _ _); refine o1_neg ?_)
  | ((with_reducible show BQ _ _ _); refine ⟨_, rfl, ?_⟩)
  | ((with_reducible show WG _ _ _ _ _ _); first | refine wg_name (by walk_at "as") (by walk_at "at") (by walk_at "loc") ?_ | refine wg_tup (by walk_at "as") ?_)
  | ((with_reducible show WGs _ _ _ _ _ _); first | refine wgs_cons (by walk_at "as") (by walk_at "at") (by walk_at "loc") ?_ | refine wgs_nil ?_))
local macro_rules | `(tactic| walk_at "s") => `(tactic| first
  | walk_at "x"
  | ((with_reducible show WSs _ _ _ _ _); first | refine wss_cons ?_ | refine wss_nil ?_))
theorem eqDD_self {β : Type} {δ : β → PyData} (hp : ∀ b, (δ b).plain = true) {l : List (Str × β)} (nd : (l.map (·.1)).Nodup) : eqDD δ l l = true := by
  unfold eqDD
  rw [Bool.and_eq_true]
  refine ⟨beq_self_eq_true _, List.all_eq_true.mpr fun p hp2 => ?_⟩
  rw [getS_of nd (b := p.2) hp2]
  exact SeqAt.eqv_refl_plain _ (hp _)
theorem df_law56 {E : Ev} (hX : E.xc) (hR : E.mg "range" = none) (hDc : E.mg "dict" = none) (hSo : E.mg "sorted" = none)
    (D0 : E.df 1 "_law_open" ["_law_script"] spBag) (D1 : E.df 1 "_law_pull" ["_law_draw", "_law_top"] spDraw) (D4 : E.df 4 "_law_small_sites" ["_law_draw"] spSites5) (D5 : E.df 2 "_law_lettered" ["_law_sites", "_law_tall_by"] (spLLett5 (tabP E.K "_law_rank_order")))
    (D6 : E.df 6 "_law_like" ["_law_found", "_law_due"] (spSameD 4)) (D7 : E.df 3 "lettered" ["sites", "letter"] (spLettered (tabP E.K "by_rank"))) (D8 : E.df 4 "lettered_holds" ["sites", "letter", "told"] (spLHolds (tabP E.K "by_rank"))) (D9 : E.df 3 "_law_bent_told" ["_law_draw", "_law_told", "_law_sites"] spBent) (D10 : E.df 2 "_law_copy" ["_law_value"] spCopyD)
    {T0 : List (Addr × Str)} (t1 : (tabP E.K "by_rank", lamQ "by_rank") ∈ T0) (t2 : (tabP E.K "_law_rank_order", lamQ "_law_rank_order") ∈ T0)
    (T : Tx E "law" (top 24) ["_law_script"]) : E.df 7 "law" ["_law_script"] (spTopT T0) := by
  refine T.df ["_law_script", "_law_draw", "_law_turn", "_law_sites", "_law_tall_by", "_law_due", "_law_step", "_law_told", "_law_bend", "_law_handed", "_law_found"] ⟨rfl, rfl, rfl, by decide +kernel, rfl, by decide +kernel, by decide +kernel⟩ (fun ws M Q ⟨a, b, e, _⟩ => by rw [e]; rfl) fun X B ws M Q ⟨w, ns, e, hl, nb, ht, q⟩ => ?_
  subst e
  have bD := bb_dict
  have bS : bootBuiltins "sorted" = some (.builtin "sorted") := by decide +kernel
  have tb1 := ht _ t1
  have tb2 := ht _ t2
  have hu : X.A.units + 65 < cLine := by have := B.room.un; omega
  show WSs X _ [some (w), none, none, none, none, none, none, none, none, none, none] M _
  repeat (walk_at "s")
  refine ⟨w, ns, rfl, hl, nb, fun b nb' => ?_⟩
  have hb : updM M b .bag b = some .bag := updM_same
  replace tb1 := (LeM.new (o := .bag) nb') _ _ tb1
  replace tb2 := (LeM.new (o := .bag) nb') _ _ tb2
  generalize updM M b .bag = M0 at hb tb1 tb2
  repeat (walk_at "s")
  refine ws_forRange1 B rfl hR ?_
  repeat (walk_at "s")
  refine ⟨_, rfl, ⟨by decide, by decide⟩, fun i σ M' => ∃ (x2 x3 x4 x5 x6 x7 x8 x9 x10 : Option VV), σ = [some (w), some (.ref b), x2, x3, x4, x5, x6, x7, x8, x9, x10] ∧ LeM M0 M', ⟨_, _, _, _, _, _, _, _, _, rfl, LeM.refl⟩, fun _ _ _ _ _ => trivial, ?_, ?_⟩
  rotate_left
  · rintro σ M' ⟨x2, x3, x4, x5, x6, x7, x8, x9, x10, rfl, l1⟩
    repeat (walk_at "s")
    refine we_dnewN fun Z1 M2 n1 l2 h1 => ?_
    repeat (walk_at "s")
    refine we_dnewN fun Z2 M3 n2 l3 h2 => ?_
    repeat (walk_at "s")
    refine ⟨Z1, Z2, [], 1, [], rfl, l3 _ _ h1, l3 _ _ (l2 _ _ (l1 _ _ tb1)), ⟨List.nodup_nil, by decide, (fun _ h => nomatch h), by decide, by decide⟩, h2, (fun _ h => nomatch h), fun M4 l4 => ?_⟩
    have e0 : ordF ([] : Sites) = [] := List.eq_nil_of_length_eq_zero (ord_len [])
    rw [e0]
    repeat (walk_at "s")
    refine o2_isB ?_
    exact ⟨M4, LeM.refl, q _⟩
  rintro i u σ M1 hi rfl ⟨x2, x3, x4, x5, x6, x7, x8, x9, x10, rfl, l1⟩
  repeat (walk_at "s")
  refine ⟨b, rfl, l1 _ _ hb, fun l S M2 nS l2 hS nd ll nm => ?_⟩
  replace l1 := l1.trans l2
  clear nS l2
  repeat (walk_at "s")
  refine ⟨b, _, rfl, l1 _ _ hb, by decide, by decide, fun x x0 x1 => ?_⟩
  have hx0 : 0 ≤ 1 + x := by omega
  have hx1 : 1 + x ≤ 1000 := by omega
  repeat (walk_at "s")
  generalize 1 + x = t at hx0 hx1
  have ok : SiOk l t := ⟨nd, by omega, nm, hx0, hx1⟩
  refine ⟨S, l, t, rfl, hS, l1 _ _ tb2, ok, fun D ps M3 nD l3 hD pk => ?_⟩
  have on := ord_nd nd
  have opm := (ordL_perm (prF l) (ordF l)).symm
  have p2 : ∀ n ∈ ordL (prF l) (ordF l), ∀ bs, ltOf (prF l) t (ordF l) n = .barred bs → M3 (ps n) = some (.lst (bs.map vbar)) := fun n hn bs e => (pk.at_ n hn bs e).1
  have dk := ltL_ok p2
  have dn : ((ltL ps (ltOf (prF l) t (ordF l)) (ordL (prF l) (ordF l))).map (·.1)).Nodup := by rw [ltL_keys]; exact opm.nodup_iff.mp on
  have dl : (ltL ps (ltOf (prF l) t (ordF l)) (ordL (prF l) (ordF l))).length ≤ 20 := by
    have := congrArg List.length (ltL_keys ps (ltOf (prF l) t (ordF l)) (ordL (prF l) (ordF l)))
    rw [List.length_map] at this
    rw [this, ← opm.length_eq, ord_len]; omega
  have d4 : TL4 (ltL ps (ltOf (prF l) t (ordF l)) (ordL (prF l) (ordF l))) := fun p hp bs e => by
    obtain ⟨n, _, rfl⟩ := List.mem_map.mp hp
    exact ltOf_len e
  rw [ltL_is] at hD
  have ge : ∀ tl : List (Str × LA), eqDD laD tl (ltL (fun _ => 0) (ltOf (prF l) t (ordF l)) (ordF l)) = eqDD laD tl (ltL ps (ltOf (prF l) t (ordF l)) (ordL (prF l) (ordF l))) := fun tl => ltL_eq on opm
  replace l1 := l1.trans l3
  replace hS := l3 _ _ hS
  clear pk p2 nD l3
  generalize ltL ps (ltOf (prF l) t (ordF l)) (ordL (prF l) (ordF l)) = due at hD dk dn dl d4 ge
  repeat (walk_at "s")
  refine ⟨S, l, t, rfl, hS, l1 _ _ tb1, ok, fun F ps2 M4 nF l4 hF pk => ?_⟩
  have p2 : ∀ n ∈ ordF l, ∀ bs, ltOf (prF l) t (ordF l) n = .barred bs → M4 (ps2 n) = some (.lst (bs.map vbar)) := fun n hn bs e => (pk.at_ n hn bs e).1
  rw [ltL_is] at hF
  repeat (walk_at "s")
  refine ⟨S, F, l, t, _, rfl, l4 _ _ hS, l4 _ _ (l1 _ _ tb1), ok, hF, ltL_ok p2, fun M5 l5 => ?_⟩
  rw [ltL_eq (ps' := ps2) on (.refl _), eqDD_self (fun b => ltD_plain _) (by rw [ltL_keys]; exact on)]
  have l35 := l4.trans l5
  clear pk p2 nF hF l4 l5
  repeat (walk_at "s")
  refine o2_notB ?_
  refine ⟨_, rfl, iteF ?_⟩
  replace l1 := l1.trans l35
  replace hS := l35 _ _ hS
  replace hD := l35 _ _ hD
  replace dk := dk.le l35
  clear l35
  repeat (walk_at "s")
  refine ws_forRange1 B rfl hR ?_
  repeat (walk_at "s")
  refine ⟨_, rfl, ⟨by decide, by decide⟩, fun i σ M' => ∃ (x2 x6 x7 x8 x9 x10 : Option VV), σ = [some (w), some (.ref b), x2, some (.ref S), some (.int t), some (.ref D), x6, x7, x8, x9, x10] ∧ LeM M5 M', ⟨_, _, _, _, _, _, rfl, LeM.refl⟩, fun _ _ _ _ _ => trivial, ?_, ?_⟩
  rotate_left
  · rintro σ M' ⟨x2, x6, x7, x8, x9, x10, rfl, l6⟩
    repeat (walk_at "s")
    exact ⟨_, _, _, _, _, _, _, _, _, rfl, l1.trans l6⟩
  rintro i u σ M6 hi rfl ⟨x2, x6, x7, x8, x9, x10, rfl, l6⟩
  repeat (walk_at "s")
  refine oc_dictDN (.inl (l6 _ _ hD)) fun H M7 nH l7 hH => ?_
  replace l7 := l6.trans l7
  refine wss_cut (fun σ M' => ∃ (H : Addr) (tl : List (Str × LA)), ∃ (x2 x6 x8 x9 x10 : Option VV), σ = [some (w), some (.ref b), x2, some (.ref S), some (.int t), some (.ref D), x6, some (.ref H), x8, x9, x10] ∧ LeM M5 M' ∧ M' H = some (.dK (dS vla tl)) ∧ TOk M' tl ∧ TL4 tl ∧ (tl.map (·.1)).Nodup ∧ tl.length ≤ 40) ?_ ?_
  · refine ws_forRange1 B rfl hR ?_
    repeat (walk_at "s")
    refine ⟨b, _, rfl, l7 _ _ (l1 _ _ hb), by decide, by decide, fun r r0 r1 => ?_⟩
    have hr3 : r.toNat ≤ 3 := by omega
    repeat (walk_at "s")
    refine ⟨_, rfl, ⟨by omega, by omega⟩, fun i σ M' => ∃ (H : Addr) (tl : List (Str × LA)), ∃ (x2 x6 x8 x9 x10 : Option VV), σ = [some (w), some (.ref b), x2, some (.ref S), some (.int t), some (.ref D), x6, some (.ref H), x8, x9, x10] ∧ LeM M5 M' ∧ M' H = some (.dK (dS vla tl)) ∧ TOk M' tl ∧ TL4 tl ∧ (tl.map (·.1)).Nodup ∧ tl.length ≤ 20 + i, ⟨H, due, _, _, _, _, _, rfl, l7, hH, dk.le l7, d4, dn, dl⟩, fun _ _ _ _ _ => trivial, ?_, ?_⟩
    · rintro j u σ M8 hj rfl ⟨H, tl, x2, x6, x8, x9, x10, rfl, l8, hH8, tk, t4, tn, tlen⟩
      walk_at "s"
      refine wss_cons ?_
      refine ws_set B (by walk_at "at") (by walk_at "loc") ?_
      refine we_if ?_
      repeat (walk_at "s")
      refine oc_sortSN B.calm (.inl hH8) (by omega) fun L1 M9 n9 l9 h9 => ?_
      repeat (walk_at "s")
      refine oc_sortSN B.calm (.inl (l9 _ _ (l8 _ _ hS))) (by omega) fun L2 Ma na la ha => ?_
      refine o2_eqT (α := List Str) (x := srt (tl.map (·.1))) (y := srt (l.map (·.1))) (Nat.lt_of_le_of_lt (Nat.add_le_add_left (by decide : _ ≤ 64) _) (show X.A.units + 64 < cLine by omega)) (dw_lst (v := VV.str) (fun x => .str x) (.ref (la _ _ h9))) (dw_lst (v := VV.str) (fun x => .str x) (.ref ha)) ?_
      have l8a := l9.trans la
      have lba := l8.trans l8a
      refine ⟨_, rfl, ite_dec (fun c0 => ?_) (fun c0 => ?_)⟩
      · repeat (walk_at "s")
        refine ⟨b, H, S, tl, l, rfl, lba _ _ (l1 _ _ hb), l8a _ _ hH8, tk.le l8a, t4, tn, by omega, lba _ _ hS, fun n hn => srt_mem.mp (c0 ▸ srt_mem.mpr hn), nm, fun p tl2 Mb np lb hp tk2 t42 tn2 tlen2 => ?_⟩
        repeat (walk_at "s")
        exact ⟨p, tl2, _, _, _, _, _, rfl, lba.trans lb, hp, tk2, t42, tn2, by omega⟩
      · repeat (walk_at "s")
        exact ⟨H, tl, _, _, _, _, _, rfl, lba, l8a _ _ hH8, tk.le l8a, t4, tn, by omega⟩
    · rintro σ M8 ⟨H, tl, x2, x6, x8, x9, x10, rfl, l8, hH8, tk, t4, tn, tlen⟩
      exact ⟨H, tl, _, _, _, _, _, rfl, l8, hH8, tk, t4, tn, by omega⟩
  clear hH l7 nH l6 H
  rintro σ M6 ⟨H, tl, x2, x6, x8, x9, x10, rfl, l6, hH6, tk, t4, tn, tlen⟩
  repeat (walk_at "s")
  refine oc_dictDN (.inl (l6 _ _ hS)) fun c1 M7 n1 l7 h1 => ?_
  repeat (walk_at "s")
  refine ⟨H, tl, rfl, l7 _ _ hH6, tn, by omega, fun c2 M8 n2 l8 h2 => ?_⟩
  repeat (walk_at "s")
  refine ⟨by show 2 ≤ sizeLine; decide, fun Z M9 nZ l9 hZ => ?_⟩
  have c1S : c1 ≠ S := fun z => by subst z; rw [l6 _ _ hS] at n1; cases n1
  have c2H : c2 ≠ H := fun z => by subst z; rw [l7 _ _ hH6] at n2; cases n2
  have l69 := l7.trans (l8.trans l9)
  have h19 := l9 _ _ (l8 _ _ h1)
  have h29 := l9 _ _ h2
  have tk9 := tk.le l69
  have hH9 := l69 _ _ hH6
  have l59 := l6.trans l69
  have l09 := l1.trans l59
  repeat (walk_at "s")
  refine oi_lst (.ref hZ) (atI_nat (j := 0) rfl) ?_
  repeat (walk_at "s")
  refine oi_lst (.ref hZ) (atI_nat (j := 1) rfl) ?_
  repeat (walk_at "s")
  refine ⟨c1, c2, l, t, tl, rfl, h19, l09 _ _ tb1, ok, h29, tk9, fun Ma la => ?_⟩
  repeat (walk_at "s")
  refine o2_eqDD (f := vla) (δ := laD) (n := 20) (n2 := 20) (by omega) (la _ _ hH9) (la _ _ (l59 _ _ hD)) (tk9.le la).dt ((dk.le l59).le la).dt ?_
  repeat (walk_at "s")
  refine ⟨_, _, rfl, by rw [ge]; exact .bl _ _ _, ?_⟩
  refine ⟨_, .bl _, iteF ?_⟩
  repeat (walk_at "s")
  refine ⟨by show 2 ≤ sizeLine; decide, fun Y Mb nY lb hY => ?_⟩
  have l9b := la.trans lb
  refine o2_neTwo (n := 20) (by omega) (.ref (l9b _ _ hZ)) (.ref hY) (l9b _ _ h19) (l9b _ _ h29) (l9b _ _ (l59 _ _ hS)) (l9b _ _ hH9) c1S c2H (sit_dat nd) ((tk9.le l9b).dat tn) ?_
  repeat (walk_at "s")
  refine iteF ?_
  repeat (walk_at "s")
  exact ⟨_, _, _, _, _, _, rfl, l59.trans l9b⟩
end G3

set_option Elab.async false
set_option linter.all false
set_option maxRecDepth 100000
set_option maxHeartbeats 4000000
set_option pp.maxSteps 1000
namespace G3
open PySem PySem.Spec L2
local macro_rules | `(tactic| walk_at "at") => `(tactic| with_reducible (repeat (first | exact At.here | apply At.there)))
local macro_rules | `(tactic| walk_at "vis") => `(tactic| first | exact Or.inl rfl | exact Or.inr (Or.inl rfl) | exact Or.inr (Or.inr rfl))
local macro_rules | `(tactic| walk_at "loc") => `(tactic| first | exact Or.inl rfl | exact Or.inr rfl)
local macro_rules | `(tactic| walk_at "as") => `(tactic| with_reducible assumption)
local macro_rules | `(tactic| walk_at "e") => `(tactic| first
  | ((with_reducible show G3.WE _ (.Name _ _) _ _ _); first | refine we_nm (by walk_at "as") (by walk_at "at") (by walk_at "vis") (by rfl) ?_ | refine we_tyn (by walk_at "as") (by rfl) (by walk_at "as") (by walk_at "as") ?_ | refine we_cls (C := He.ga _ _) (by walk_at "as") (by rfl) (by walk_at "as") ?_ | refine we_nmH (by walk_at "as") (by walk_at "at") (by walk_at "vis") (by rfl) ?_ | refine we_tynH (by walk_at "as") (by rfl) (by walk_at "as") (by walk_at "as") ?_ | refine we_clsH (C := He.ga _ _) (by walk_at "as") (by rfl) (by walk_at "as") ?_)
  | ((with_reducible show G3.WE _ (.Constant (.int _) _ _) _ _ _); refine we_int ?_)
  | ((with_reducible show G3.WE _ (.Subscript _ (.Slice _ _ (some _) _) _) _ _ _); refine we_rev ?_)
  | ((with_reducible show G3.WE _ (.Subscript _ (.Slice _ _ none _) _) _ _ _); refine we_slice ?_)
  | ((with_reducible show G3.WE _ (.Subscript _ _ _) _ _ _); refine we_ix ?_)
  | ((with_reducible show G3.WE _ (.BinOp _ _ _ _) _ _ _); refine we_op ?_)
  | ((with_reducible show G3.WE _ (.Call (.Name _ _) _ _ _) _ _ _); first
      | refine we_call (by walk_at "as") (by walk_at "as") (by decide) (by rfl) ?_
      | refine we_callB (by walk_at "as") (by rfl) (by walk_at "as") (by walk_at "as") ?_
      | refine we_callTy (by walk_at "as") (by rfl) (by walk_at "as") (by walk_at "as") ?_
      | refine we_callX (by walk_at "as") (by walk_at "as") (by walk_at "as") (by decide) (by rfl) (by walk_at "as") ?_
      | refine we_callBH (by walk_at "as") (by rfl) (by walk_at "as") (by walk_at "as") ?_)
  | ((with_reducible show G3.WE _ (.Attribute _ _ _) _ _ _); first | refine we_fld (by walk_at "as") ?_ | refine we_xfH (by walk_at "as") (by walk_at "as") (by walk_at "as") (by walk_at "as") ?_)
  | ((with_reducible show G3.WE _ (.Tuple _ _ _) _ _ _); refine we_tup ?_)
  | ((with_reducible show G3.WE _ (.List _ _) _ _ _); first | refine we_lstN ?_ | refine we_lst ?_)
  | ((with_reducible show G3.WE _ (.Compare _ [_] _ _) _ _ _); refine we_cmp ?_)
  | ((with_reducible show G3.WE _ (.Compare _ [_, _] _ _) _ _ _); refine we_chain ?_)
  | ((with_reducible show G3.WE _ (.UnaryOp .Not _ _) _ _ _); refine we_not ?_)
  | ((with_reducible show G3.WE _ (.UnaryOp _ _ _) _ _ _); refine we_un ?_)
  | ((with_reducible show G3.WE _ (.IfExp _ _ _ _) _ _ _); refine we_if ?_)
  | ((with_reducible show G3.WE _ (.Constant _ _ _) _ _ _); first | refine we_bl ?_ | refine we_non ?_ | refine we_str ?_)
  | ((with_reducible show G3.WE _ (.JoinedStr (_ :: _ :: _) _) _ _ _); refine we_joined ?_)
  | ((with_reducible show G3.WE _ (.FormattedValue _ _ _ _) _ _ _); refine we_fmt ?_)
  | ((with_reducible show G3.WE _ (.BoolOp _ [_] _) _ _ _); refine we_one ?_)
  | ((with_reducible show G3.WE _ (.BoolOp .And _ _) _ _ _); refine we_and ?_)
  | ((with_reducible show G3.WE _ (.BoolOp .Or _ _) _ _ _); refine we_or ?_))
local macro_rules | `(tactic| walk_at "t") => `(tactic| first
  | ((with_reducible show WT _ (.Compare _ [_] _ _) _ _ _); refine wt_cmp ?_)
  | ((with_reducible show WT _ (.Compare _ [_, _] _ _) _ _ _); refine wt_chain ?_)
  | ((with_reducible show WT _ (.UnaryOp .Not _ _) _ _ _); refine wt_not ?_)
  | ((with_reducible show WT _ (.BoolOp .And _ _) _ _ _); refine wt_w (ww_and ?_))
  | ((with_reducible show WT _ (.BoolOp .Or _ _) _ _ _); refine wt_w (ww_or ?_))
  | refine wt_truth ?_)
local macro_rules | `(tactic| walk_at "w") => `(tactic| first
  | ((with_reducible show WW _ (.BoolOp .And [_] _) _ _ _); refine ww_and1 ?_)
  | ((with_reducible show WW _ (.BoolOp .Or [_] _) _ _ _); refine ww_or1 ?_)
  | ((with_reducible show WW _ (.BoolOp .And _ _) _ _ _); refine ww_and ?_)
  | ((with_reducible show WW _ (.BoolOp .Or _ _) _ _ _); refine ww_or ?_))
local macro_rules | `(tactic| walk_at "st") => `(tactic| first
  | ((with_reducible show WS _ (.Assign [.Name _ _] (.ListComp _ _ _ _) _) _ _ _); fail)
  | ((with_reducible show WS _ (.Assign [.Name _ _] _ _) _ _ _); first | refine ws_set (by walk_at "as") (by walk_at "at") (by walk_at "loc") ?_ | refine ws_setH (by walk_at "as") (by walk_at "at") (by walk_at "loc") ?_)
  | ((with_reducible show WS _ (.Return (some _) _) _ _ _); refine ws_ret ?_)
  | ((with_reducible show WS _ (.If _ _ _ _) _ _ _); refine ws_if ?_)
  | ((with_reducible show WS _ (.Expr (.Call (.Attribute _ "append" _) _ _ _) _) _ _ _); refine ws_append ?_)
  | ((with_reducible show WS _ (.Expr (.Call (.Attribute _ "insert" _) _ _ _) _) _ _ _); refine ws_insert ?_)
  | ((with_reducible show WS _ (.Expr _ _) _ _ _); refine ws_expr ?_)
  | ((with_reducible show WS _ (.Assign [.Tuple _ _ _] (.Tuple _ _ _) _) _ _ _); first
      | refine ws_par2 (by walk_at "as") (by walk_at "at") (by walk_at "at") (by rfl) (by rfl) (by rfl) (by rfl) ?_
      | refine ws_asgT (by walk_at "as") (by rfl) ?_)
  | ((with_reducible show WS _ (.Raise (some _) none _) _ _ _); refine ws_raise (by walk_at "as") (by walk_at "as") ?_)
  | ((with_reducible show WS _ (.Assign [_] _ _) _ _ _); (fail_if_success (with_reducible show WS _ (.Assign [.Attribute _ _ _] _ _) _ _ _)); refine ws_asg ?_)
  | ((with_reducible show WS _ (.Return none _) _ _ _); refine ws_retN ?_)
  | ((with_reducible show WS _ (.Pass _) _ _ _); refine ws_pass ?_)
  | ((with_reducible show WS _ (.Break _) _ _ _); refine ws_break ?_)
  | ((with_reducible show WS _ (.Continue _) _ _ _); refine ws_continue ?_))
local macro_rules | `(tactic| walk_at "mul") => `(tactic| with_unfolding_all first
  | exact cml (by decide) (by decide)
  | exact cmr (by decide) (by decide)
  | exact cmw (by with_reducible assumption) (by with_reducible assumption) (by decide) (by decide) (by decide)
  | exact cml (by omega) (by omega)
  | exact cmr (by omega) (by omega))
local macro_rules | `(tactic| walk_at "o2") => `(tactic| with_reducible first
  | refine o2_add ?_
  | refine o2_sub ?_
  | refine o2_mul (by walk_at "mul") ?_
  | refine o2_lt ?_
  | refine o2_le ?_
  | refine o2_gt ?_
  | refine o2_ge ?_
  | refine o2_eqi ?_
  | refine o2_nei ?_
  | refine o2_eqb ?_
  | refine o2_neb ?_
  | refine o2_eqs ?_
  | refine o2_nes ?_
  | refine o2_isN ?_
  | refine o2_notN ?_)
local macro_rules | `(tactic| walk_at "x") => `(tactic| first
  | ((with_reducible show G3.WE _ _ _ _ _); walk_at "e")
  | ((with_reducible show WA _ _ _ _ _); first | refine wa_cons ?_ | refine wa_nil ?_)
  | ((with_reducible show WMk _ (.Call (.Name _ _) [] _ _) _ _ _); refine wmk_own0 (by walk_at "as") (by walk_at "as") (by decide) (by rfl) ?_)
  | ((with_reducible show WO _ _ _ _ _); first | (show G3.WE _ _ _ _ _))
  | ((with_reducible show WT _ _ _ _ _); walk_at "t")
  | ((with_reducible show G3.WJ _ _ _ _ _ _); first | refine wj_cons ?_ | refine wj_nil ?_)
  | ((with_reducible show G3.WK _ _ _ _ _); first | refine wk_cons ?_ | refine wk_nil ?_)
  | ((with_reducible show WW _ _ _ _ _); walk_at "w")
  | ((with_reducible show WS _ _ _ _ _); walk_at "st")
  | ((with_reducible show O2 _ _ _ _ _ _); walk_at "o2")
  | ((with_reducible show OI _ (.tup _) _ _ _); refine oi_tup rfl ?_)
  | ((with_reducible show OC _ _ _ _ _); with_reducible first | refine oc_abs ?_ | refine oc_int ?_ | refine oc_intb ?_ | refine oc_lenT ?_)
  | ((with_reducible show O1 _ _ _ _ _); refine o1_neg ?_)
  | ((with_reducible show BQ _ _ _); refine ⟨_, rfl, ?_⟩)
  | ((with_reducible show WG _ _ _ _ _ _); first | refine wg_name (by walk_at "as") (by walk_at "at") (by walk_at "loc") ?_ | refine wg_tup (by walk_at "as") ?_)
  | ((with_reducible show WGs _ _ _ _ _ _); first | refine wgs_cons (by walk_at "as") (by walk_at "at") (by walk_at "loc") ?_ | refine wgs_nil ?_))
local macro_rules | `(tactic| walk_at "s") => `(tactic| first
  | walk_at "x"
  | ((with_reducible show WSs _ _ _ _ _); first | refine wss_cons ?_ | refine wss_nil ?_))
def tabN : List Str := ["by_rank", "_law_rank_order"]
def lawK : Nat := 7
def exL (K : PySem.W.Frag) : List Bool := ([decide ((tabsK K tabN).map (·.1)).Nodup, He.tupB K "SIDES" [.str "ne", .str "nw", .str "se", .str "sw"]] : List Bool)
def exK (K : PySem.W.Frag) : Bool := (exL K).all id
def fn : List He.DefD := ([dD "box_at" (top 2), dD "in_box" (top 3), dD "meet" (top 4), dD "by_rank" (top 5), dD "standing" (top 6), dD "barring" (top 7), dD "lettered" (top 8), dD "lettered_holds" (top 9), dD "_law_open" (top 11), dD "_law_pull" (top 12), dD "_law_any" (top 13), dD "_law_like" (top 14), dD "_law_copy" (top 15), dD "_law_mixed" (top 16), dD "_law_names" (top 17), dD "_law_rank_order" (top 18), dD "_law_room" (top 19), dD "_law_touch" (top 20), dD "_law_lettered" (top 21), dD "_law_small_sites" (top 22)] : List He.DefD) ++ ([dD "_law_bent_told" (top 23), dD "law" (top 24)] : List He.DefD)
def fa : List He.Fa := ([.glo "box_at", .glo "in_box", .glo "meet", .glo "by_rank", .glo "standing", .glo "barring", .glo "lettered", .glo "lettered_holds", .glo "_law_open", .glo "_law_pull", .glo "_law_any", .glo "_law_like", .glo "_law_copy", .glo "_law_mixed", .glo "_law_names", .glo "_law_rank_order", .glo "_law_room", .glo "_law_touch", .glo "_law_lettered", .glo "_law_small_sites"] : List He.Fa) ++ ([.glo "_law_bent_told", .glo "law", .free "len", .free "list", .free "range", .free "isinstance", .free "bool", .free "str", .free "int", .free "dict", .free "tuple", .free "all", .free "sorted", .free "max", .free "min", .free "zip", .glo "SIDES"] : List He.Fa)
def loose : List Str := (["__name__", "SIDES", "box_at", "in_box", "meet", "by_rank", "standing", "barring", "lettered", "lettered_holds", "_law_open", "_law_pull", "_law_any", "_law_like", "_law_copy", "_law_mixed", "_law_names", "_law_rank_order", "_law_room", "_law_touch"] : List Str) ++ (["_law_lettered", "_law_small_sites", "_law_bent_told"] : List Str)
theorem tabs_nd {K : PySem.W.Frag} (ex : exK K = true) : ((tabsK K tabN).map (·.1)).Nodup := of_decide_eq_true (exat (l := exL K) ex 0 (by rfl))
theorem lawT {E : Ev} {h : Heap} (X : E.K.In h) (G : h.Ns mainGlobals E.mg) (c : He.SaysD fa fn E.K) : Tx E "law" (top 24) ["_law_script"] := by
  have T_law : Tx E "law" (top 24) ["_law_script"] := Tx.mk X G c 21 21 rfl rfl fun _ _ _ _ _ _ us hl => match us, hl with | [_], _ => rfl
  exact T_law
theorem facts {E : Ev} {h : Heap} (hX : E.xc) (X : E.K.In h) (G : h.Ns mainGlobals E.mg) (c : He.SaysD fa fn E.K) (ex : exK E.K = true) (tb : ∀ x ∈ tabN, LamX.TabB E.base E.mg (codP E.K x) (tabP E.K x)) : E.df lawK "law" ["_law_script"] (spTopT (tabsK E.K tabN)) := by
  have T_box_at : Tx E "box_at" (top 2) ["pair", "name", "letter", "side"] := Tx.mk X G c 0 0 rfl rfl fun _ _ _ _ _ _ us hl => match us, hl with | [_, _, _, _], _ => rfl
  have T_in_box : Tx E "in_box" (top 3) ["pair", "box"] := Tx.mk X G c 1 1 rfl rfl fun _ _ _ _ _ _ us hl => match us, hl with | [_, _], _ => rfl
  have T_meet : Tx E "meet" (top 4) ["one", "other"] := Tx.mk X G c 2 2 rfl rfl fun _ _ _ _ _ _ us hl => match us, hl with | [_, _], _ => rfl
  have T_by_rank : TxC E "by_rank" (top 5) ["sites"] := TxC.mk X G c 3 3 rfl rfl fun _ _ _ _ _ _ us hl => match us, hl with | [_], _ => rfl
  have T_standing : Tx E "standing" (top 6) ["sites"] := Tx.mk X G c 4 4 rfl rfl fun _ _ _ _ _ _ us hl => match us, hl with | [_], _ => rfl
  have T_barring : Tx E "barring" (top 7) ["name", "box", "stands", "boxes"] := Tx.mk X G c 5 5 rfl rfl fun _ _ _ _ _ _ us hl => match us, hl with | [_, _, _, _], _ => rfl
  have T_lettered : Tx E "lettered" (top 8) ["sites", "letter"] := Tx.mk X G c 6 6 rfl rfl fun _ _ _ _ _ _ us hl => match us, hl with | [_, _], _ => rfl
  have T_lettered_holds : Tx E "lettered_holds" (top 9) ["sites", "letter", "told"] := Tx.mk X G c 7 7 rfl rfl fun _ _ _ _ _ _ us hl => match us, hl with | [_, _, _], _ => rfl
  have T__law_open : Tx E "_law_open" (top 11) ["_law_script"] := Tx.mk X G c 8 8 rfl rfl fun _ _ _ _ _ _ us hl => match us, hl with | [_], _ => rfl
  have T__law_pull : Tx E "_law_pull" (top 12) ["_law_draw", "_law_top"] := Tx.mk X G c 9 9 rfl rfl fun _ _ _ _ _ _ us hl => match us, hl with | [_, _], _ => rfl
  have T__law_any : Tx E "_law_any" (top 13) ["_law_draw", "_law_some"] := Tx.mk X G c 10 10 rfl rfl fun _ _ _ _ _ _ us hl => match us, hl with | [_, _], _ => rfl
  have T__law_like : Tx E "_law_like" (top 14) ["_law_found", "_law_due"] := Tx.mk X G c 11 11 rfl rfl fun _ _ _ _ _ _ us hl => match us, hl with | [_, _], _ => rfl
  have T__law_copy : Tx E "_law_copy" (top 15) ["_law_value"] := Tx.mk X G c 12 12 rfl rfl fun _ _ _ _ _ _ us hl => match us, hl with | [_], _ => rfl
  have T__law_mixed : Tx E "_law_mixed" (top 16) ["_law_draw", "_law_some"] := Tx.mk X G c 13 13 rfl rfl fun _ _ _ _ _ _ us hl => match us, hl with | [_, _], _ => rfl
  have T__law_names : Tx E "_law_names" (top 17) ["_law_draw"] := Tx.mk X G c 14 14 rfl rfl fun _ _ _ _ _ _ us hl => match us, hl with | [_], _ => rfl
  have T__law_rank_order : TxC E "_law_rank_order" (top 18) ["_law_sites"] := TxC.mk X G c 15 15 rfl rfl fun _ _ _ _ _ _ us hl => match us, hl with | [_], _ => rfl
  have T__law_room : Tx E "_law_room" (top 19) ["_law_pair", "_law_name", "_law_tall_by", "_law_corner"] := Tx.mk X G c 16 16 rfl rfl fun _ _ _ _ _ _ us hl => match us, hl with | [_, _, _, _], _ => rfl
  have T__law_touch : Tx E "_law_touch" (top 20) ["_law_one", "_law_other"] := Tx.mk X G c 17 17 rfl rfl fun _ _ _ _ _ _ us hl => match us, hl with | [_, _], _ => rfl
  have T__law_lettered : Tx E "_law_lettered" (top 21) ["_law_sites", "_law_tall_by"] := Tx.mk X G c 18 18 rfl rfl fun _ _ _ _ _ _ us hl => match us, hl with | [_, _], _ => rfl
  have T__law_small_sites : Tx E "_law_small_sites" (top 22) ["_law_draw"] := Tx.mk X G c 19 19 rfl rfl fun _ _ _ _ _ _ us hl => match us, hl with | [_], _ => rfl
  have T__law_bent_told : Tx E "_law_bent_told" (top 23) ["_law_draw", "_law_told", "_law_sites"] := Tx.mk X G c 20 20 rfl rfl fun _ _ _ _ _ _ us hl => match us, hl with | [_, _, _], _ => rfl
  have T_law : Tx E "law" (top 24) ["_law_script"] := Tx.mk X G c 21 21 rfl rfl fun _ _ _ _ _ _ us hl => match us, hl with | [_], _ => rfl
  have h_len : E.mg "len" = none := free_mk X G c 22 rfl
  have h_list : E.mg "list" = none := free_mk X G c 23 rfl
  have h_range : E.mg "range" = none := free_mk X G c 24 rfl
  have h_isinstance : E.mg "isinstance" = none := free_mk X G c 25 rfl
  have h_bool : E.mg "bool" = none := free_mk X G c 26 rfl
  have h_str : E.mg "str" = none := free_mk X G c 27 rfl
  have h_int : E.mg "int" = none := free_mk X G c 28 rfl
  have h_dict : E.mg "dict" = none := free_mk X G c 29 rfl
  have h_tuple : E.mg "tuple" = none := free_mk X G c 30 rfl
  have h_all : E.mg "all" = none := free_mk X G c 31 rfl
  have h_sorted : E.mg "sorted" = none := free_mk X G c 32 rfl
  have h_max : E.mg "max" = none := free_mk X G c 33 rfl
  have h_min : E.mg "min" = none := free_mk X G c 34 rfl
  have h_zip : E.mg "zip" = none := free_mk X G c 35 rfl
  have tn := exat (l := exL E.K) ex 0 (by rfl)
  have tn := of_decide_eq_true tn
  have t1 := exat (l := exL E.K) ex 1 (by rfl)
  have hSd : ∃ a, E.mg "SIDES" = some (.ref a) ∧ ∀ H, Rv E.K H (.ref a) (.tup (([0, 1, 2, 3] : List Nat).map fun k => VV.str (sideS k))) := tup_mk X G c 36 rfl t1 fun H => .cons (.str _) (.cons (.str _) (.cons (.str _) (.cons (.str _) .nil)))
  have tb1 := tb "by_rank" (by decide)
  have tb2 := tb "_law_rank_order" (by decide)
  have P1 := df_box_at h_len T_box_at
  have P2 := df_in_box T_in_box
  have P3 := df_meet h_max h_min T_meet
  have P4 := df_by_rank hX h_sorted tb1 T_by_rank
  have P5 := df_standing P4 T_standing
  have P6 := df_barring P2 P3 T_barring
  have P7 := df_lettered hSd P4 P5 P6 P1 T_lettered
  have P8 := df_lholds P7 T_lettered_holds
  have L1 := df_open5 h_list T__law_open
  have L2 := df_pull h_len T__law_pull
  have L3 := df_any5 h_len L2 T__law_any
  have L4 := df_likeD h_sorted h_isinstance h_bool h_str h_dict h_tuple h_list h_len h_all h_zip T__law_like 4
  have L5 := df_copyT h_isinstance h_dict h_list T__law_copy
  have L6 := df_copyD h_isinstance h_dict h_list L5 T__law_copy
  have L7 := df_mix5 h_list h_len h_range L2 T__law_mixed
  have L8 := df_names5 L2 L7 T__law_names
  have L9 := df_lsites5 h_range L2 L3 L8 T__law_small_sites
  have L10 := df_room h_len h_int T__law_room
  have L11 := df_touch T__law_touch
  have L12 := df_rankO hX h_sorted tb2 T__law_rank_order
  have L13 := df_llett5 L12 L10 L11 T__law_lettered
  have L14 := df_bent h_dict h_list h_sorted L2 L3 L10 T__law_bent_told
  exact df_law56 hX h_range h_dict h_sorted L1 L2 L9 L13 L4 P7 P8 L14 L6 (List.mem_map.mpr ⟨"by_rank", by decide, rfl⟩) (List.mem_map.mpr ⟨"_law_rank_order", by decide, rfl⟩) T_law
abbrev R : PySem.W.OpenRow := PySem.W.OpenLaw.row PySem.Challenge.rw_gromatic_k56_whole_lettering_shown_both
def tf : List He.Defn := tabN.map fun x => (x, none)
abbrev hk : PySem.W.Hook := He.hookX 4 fa fn [] tf exK
def ob (s : PySem.W.SharedT) : He.AlX := He.obsX 4 fa fn [] tf exK (HandSHeadRun.getT s)
theorem ob_eq (s : PySem.W.SharedT) : ob s = hk.obs s.abs := He.obsX_eq (HandSHeadRun.getT_eq s)
theorem run (w : World) : HandSHeadRun.RunEq R (PySem.W.view R.prog [24]) hk ob 8000 loose w := by
  intro os
  kernel_rfl
end G3
open PySem PySem.W PySem.Calls PyProof.Rows
theorem PySem.Challenge.cw_gromatic_k56_whole_lettering_shown_both_holds : PySem.Challenge.rw_gromatic_k56_whole_lettering_shown_both.Holds := by
  w_on; o_law
  refine HandSHeadRun.head_any (r := OpenLaw.row PySem.Challenge.rw_gromatic_k56_whole_lettering_shown_both) (q := view (OpenLaw.row PySem.Challenge.rw_gromatic_k56_whole_lettering_shown_both).prog [24]) (H := G3.hk) (ob := G3.ob) (M := 8000) (loose := G3.loose) (d := HandSHeadRun.topDef (OpenLaw.row PySem.Challenge.rw_gromatic_k56_whole_lettering_shown_both).prog 24) (kwd := []) G3.ob_eq
    (by kernel_rfl) (fun s => by kernel_rfl) G3.run (by kernel_rfl) (by kernel_rfl) (by kernel_rfl) (by rfl) (by first | assumption | decide +kernel) (by decide +kernel) ⟨rfl, rfl, rfl, rfl, rfl, by decide +kernel⟩ ?hw ?hc
  case hw => w_witness2
  case hc =>
    refine LamX.walk_ofTsE (l := PySem.Challenge.rw_gromatic_k56_whole_lettering_shown_both) (n := 63) (k := G3.lawK) (x := "_law_script") (CX := fun _ => L2.CX0) rfl (by decide) (by kernel_rfl) ⟨rfl, by decide, by decide⟩ ?F (fun _ _ _ _ _ z => z)
    intro w mg fa h Y G hmg0
    obtain ⟨K, KX, c⟩ := Y
    have hmg : mg ("law" : PySem.Str) = some (.ref fa) := by
      have e : (HandSHeadRun.topDef (OpenLaw.row PySem.Challenge.rw_gromatic_k56_whole_lettering_shown_both).prog 24).name = ("law" : PySem.Str) := by kernel_rfl
      rw [← e]
      exact hmg0
    refine ⟨K, KX, ?_⟩
    have T0 := G3.lawT (E := ⟨(PySem.Challenge.rw_gromatic_k56_whole_lettering_shown_both).prog, w, K, mg, h, L2.CX (PySem.Challenge.rw_gromatic_k56_whole_lettering_shown_both).prog w, fun _ _ _ => G3.pass_cx⟩) KX G (G3.SaysT_d c.t)
    obtain ⟨fd, hb, oc, od, osl, lk⟩ := G3.fd_of T0 hmg
    refine ⟨fd, G3.tf.map (He.cT K), G3.toSp K (G3.spTopT (G3.tabsK K G3.tabN)), fun p hp => ?_, fun p hp => ?_, fun p hp => ?_, hb, fun H a ns hl _ hT hS => G3.end_spT (G3.tabs_nd c.more) (fun p hp => ?_) hS, fun base KB GB TB => ?_⟩
    · obtain ⟨d, hd, rfl⟩ := List.mem_map.mp hp
      exact c.empty d hd
    · obtain ⟨d, hd, rfl⟩ := List.mem_map.mp hp
      exact c.out d hd
    · obtain ⟨d, hd, rfl⟩ := List.mem_map.mp hp
      exact PySem.W.codeHd_of_K KX (c.hd d hd)
    · obtain ⟨x, hx, rfl⟩ := List.mem_map.mp hp
      exact hT (He.cT K (x, none)) (List.mem_map.mpr ⟨(x, none), List.mem_map.mpr ⟨x, hx, rfl⟩, rfl⟩)
    · obtain ⟨fd', hF, oc', od', osl', lk'⟩ := G3.end_ofT (G3.facts (E := ⟨(PySem.Challenge.rw_gromatic_k56_whole_lettering_shown_both).prog, w, K, mg, base, L2.CX (PySem.Challenge.rw_gromatic_k56_whole_lettering_shown_both).prog w, fun _ _ _ => G3.pass_cx⟩) rfl KX G (G3.SaysT_d c.t) c.more fun x hx => TB (He.cT K (x, none)) (List.mem_map.mpr ⟨(x, none), List.mem_map.mpr ⟨x, hx, rfl⟩, rfl⟩)) hmg
      have e := lk.symm.trans lk'
      cases e
      exact G3.fn_noX hF
