import PyProof.Rows.All
import PySem.Challenge.RW_gromatic_k21_whole_bare_points
import Wide.All
import OpenK.AllK
import Wide.FinOn
import HandS.ForMost
import HandS.Wide
import HandS.ForExc
import HandS.EndBits
import HandS.IsInst
import KE.Datum
import KE.KStateDown
import HandS.Defaults
import HandS.Head0
import HandS.Head1
import HandS.Head2
import HandS.HeadEnd
import HandS.HeadHook1
import HandS.HeadHook2
import HandS.HeadHook3
import HandS.HeadHook4
import HandS.Style
import HandS.TryOnly
import HandS.TupAny
import HandS.RevRange
import HandS.More
import HandS.ExcInit
import HandS.EndTab
import HandS.HeadWalk
import KE.SortKeyHeap
import KE.KDictSum
import KE.DatumOrd
import HandS.Deep
import KE.SortData
import HandS.Zip
import KE.KDictZip
import KE.KUnpackStar
import PyProof.ListNew
set_option Elab.async false
set_option linter.all false
set_option maxRecDepth 100000
set_option maxHeartbeats 4000000
/-! L3: tuples by content; lists, dicts and instances in an abstract heap Mp. Judgements in weakest form, one rule a construct. -/
namespace G3
open PySem L2

/-- a value: a tuple is its items -/
inductive VV where
  | non | bl (b : Bool) | int (i : Int) | str (x : Str) | ref (a : Addr) | ty (n : String) | tup (xs : List VV)
  /-- a list that stays as it is -/
  | seq (xs : List VV)
  /-- a tuple that the run has laid -/
  | ftp (xs : List VV)

/-- a list that stays what it is -/
def SqR (K : PySem.W.Frag) (H : Hp) (a : Addr) (xs : List V) : Prop := (∃ o, H a = some (.frz o (.lst xs))) ∨
  ∃ (o : Obj) (its : Array Value) (n : Nat), K.lookup a = some o ∧ o.cls = .type "list" ∧ o.dict = none ∧ o.data = .seq its n ∧ its.size ≤ sizeLine ∧ Vals xs its.toList
theorem SqR.sql {K : PySem.W.Frag} {H : Hp} {a : Addr} {xs : List V} (h : SqR K H a xs) : SqL K H a xs := by
  rcases h with ⟨o, h⟩ | h
  · exact .inl (.inr ⟨o, h⟩)
  · exact .inr h

mutual
inductive Rv (K : PySem.W.Frag) (H : Hp) : V → VV → Prop
  | non : Rv K H .non .non
  | bl (b : Bool) : Rv K H (.bl b) (.bl b)
  | int (i : Int) : Rv K H (.int i) (.int i)
  | str (x : Str) : Rv K H (.str x) (.str x)
  | ref (a : Addr) : Rv K H (.ref a) (.ref a)
  | ty (n : String) : Rv K H (.ty n) (.ty n)
  | tup {p : Addr} {vs : List V} {ws : List VV} : SqT K H p vs → Rvs K H vs ws → Rv K H (.ref p) (.tup ws)
  | seq {p : Addr} {vs : List V} {ws : List VV} : SqR K H p vs → Rvs K H vs ws → Rv K H (.ref p) (.seq ws)
  | ftp {p : Addr} {vs : List V} {ws : List VV} : H p = some (.tup vs) → Rvs K H vs ws → Rv K H (.ref p) (.ftp ws)
inductive Rvs (K : PySem.W.Frag) (H : Hp) : List V → List VV → Prop
  | nil : Rvs K H [] []
  | cons {v : V} {vs : List V} {w : VV} {ws : List VV} : Rv K H v w → Rvs K H vs ws → Rvs K H (v :: vs) (w :: ws)
end

theorem upd_nn {H : Hp} {p b : Addr} {o : HO} (h : H b ≠ none) : upd H p o b ≠ none := by
  unfold upd; split
  · intro z; cases z
  · exact h
/-- what is locked for a while only: dicts -/
def Lkd : HO → Bool
  | .dK _ => true
  | .dT _ => true
  | _ => false
/-- tuples and locked things stay -/
structure TM (H H' : Hp) : Prop where
  tup : ∀ b xs, H b = some (.tup xs) → H' b = some (.tup xs)
  frz : ∀ b o u, Lkd u = false → H b = some (.frz o u) → H' b = some (.frz o u)
theorem TM.refl {H : Hp} : TM H H := ⟨fun _ _ h => h, fun _ _ _ _ h => h⟩
theorem TM.trans {H H1 H2 : Hp} (a : TM H H1) (b : TM H1 H2) : TM H H2 := ⟨fun c xs h => b.tup c xs (a.tup c xs h), fun c o u k h => b.frz c o u k (a.frz c o u k h)⟩
theorem TM.fresh {H : Hp} {p : Addr} {o : HO} (h : H p = none) : TM H (upd H p o) :=
  ⟨fun c xs e => by rw [upd_ne (ne_of_none e h)]; exact e, fun c ob u _ e => by rw [upd_ne (ne_of_none e h)]; exact e⟩
theorem TM.lst {H : Hp} {p : Addr} {xs : List V} {o : HO} (h : H p = some (.lst xs)) : TM H (upd H p o) :=
  ⟨fun c ys e => by rw [upd_ne (ne_of e h (by intro z; cases z))]; exact e, fun c ob u _ e => by rw [upd_ne (ne_of e h (by intro z; cases z))]; exact e⟩
theorem SqT.mono {K : PySem.W.Frag} {H H' : Hp} {p : Addr} {vs : List V} (t : TM H H') (h : SqT K H p vs) : SqT K H' p vs := by
  rcases h with (h | ⟨o, h⟩) | h
  · exact .inl (.inl (t.tup p vs h))
  · exact .inl (.inr ⟨o, t.frz p o _ rfl h⟩)
  · exact .inr h
theorem SqR.mono {K : PySem.W.Frag} {H H' : Hp} {a : Addr} {xs : List V} (t : TM H H') (h : SqR K H a xs) : SqR K H' a xs := by
  rcases h with ⟨o, h⟩ | h
  · exact .inl ⟨o, t.frz _ _ _ rfl h⟩
  · exact .inr h
mutual
theorem Rv.mono {K : PySem.W.Frag} {H H' : Hp} (t : TM H H') : ∀ (w : VV) (v : V), Rv K H v w → Rv K H' v w
  | .non, _, h => by cases h; exact .non
  | .bl b, _, h => by cases h; exact .bl b
  | .int b, _, h => by cases h; exact .int b
  | .str b, _, h => by cases h; exact .str b
  | .ref b, _, h => by cases h; exact .ref b
  | .ty b, _, h => by cases h; exact .ty b
  | .tup ws, _, h => by
    cases h with
    | tup hs hr => exact .tup (SqT.mono t hs) (Rvs.mono t ws _ hr)
  | .seq ws, _, h => by
    cases h with
    | seq hs hr => exact .seq (SqR.mono t hs) (Rvs.mono t ws _ hr)
  | .ftp ws, _, h => by
    cases h with
    | ftp hs hr => exact .ftp (t.tup _ _ hs) (Rvs.mono t ws _ hr)
theorem Rvs.mono {K : PySem.W.Frag} {H H' : Hp} (t : TM H H') : ∀ (ws : List VV) (vs : List V), Rvs K H vs ws → Rvs K H' vs ws
  | [], _, h => by cases h; exact .nil
  | w :: ws, _, h => by
    cases h with
    | cons h1 h2 => exact .cons (Rv.mono t w _ h1) (Rvs.mono t ws _ h2)
end
section
variable {K : PySem.W.Frag} {H H' : Hp}
theorem Rvs.length {vs : List V} : ∀ {ws : List VV}, Rvs K H vs ws → vs.length = ws.length := by
  induction vs with
  | nil => intro ws h; cases h; rfl
  | cons v vs ih => intro ws h; cases h with | cons _ h2 => simp [ih h2]
theorem Rvs.get {vs : List V} : ∀ {ws : List VV} {i : Nat} {w : VV}, Rvs K H vs ws → ws[i]? = some w → ∃ v, vs[i]? = some v ∧ Rv K H v w := by
  induction vs with
  | nil => intro ws i w h e; cases h; simp at e
  | cons v vs ih =>
    intro ws i w h e
    cases h with
    | cons h1 h2 =>
      cases i with
      | zero => simp at e; subst e; exact ⟨_, rfl, h1⟩
      | succ i =>
        obtain ⟨u, a, b⟩ := ih h2 (by simpa using e)
        exact ⟨u, by simpa using a, b⟩
theorem Rvs.get' {vs : List V} : ∀ {ws : List VV} {i : Nat} {v : V}, Rvs K H vs ws → vs[i]? = some v → ∃ w, ws[i]? = some w ∧ Rv K H v w := by
  induction vs with
  | nil => intro ws i w h e; simp at e
  | cons v vs ih =>
    intro ws i w h e
    cases h with
    | cons h1 h2 =>
      cases i with
      | zero => simp at e; subst e; exact ⟨_, rfl, h1⟩
      | succ i =>
        obtain ⟨u, a, b⟩ := ih h2 (by simpa using e)
        exact ⟨u, by simpa using a, b⟩
theorem Rvs.append {xs ys : List V} : ∀ {us ws : List VV}, Rvs K H xs us → Rvs K H ys ws → Rvs K H (xs ++ ys) (us ++ ws) := by
  induction xs with
  | nil => intro us ws h k; cases h; exact k
  | cons x xs ih => intro us ws h k; cases h with | cons h1 h2 => exact .cons h1 (ih h2 k)
theorem Rvs.take {xs : List V} : ∀ {us : List VV} (n : Nat), Rvs K H xs us → Rvs K H (xs.take n) (us.take n) := by
  induction xs with
  | nil => intro us n h; cases h; simp; exact .nil
  | cons x xs ih =>
    intro us n h
    cases h with
    | cons h1 h2 =>
      cases n with
      | zero => exact .nil
      | succ n => exact .cons h1 (ih n h2)
theorem Rvs.drop {xs : List V} : ∀ {us : List VV} (n : Nat), Rvs K H xs us → Rvs K H (xs.drop n) (us.drop n) := by
  induction xs with
  | nil => intro us n h; cases h; simp; exact .nil
  | cons x xs ih =>
    intro us n h
    cases h with
    | cons h1 h2 =>
      cases n with
      | zero => exact .cons h1 h2
      | succ n => exact ih n h2
theorem Rvs.set {xs : List V} : ∀ {us : List VV} {v : V} {w : VV} (n : Nat), Rv K H v w → Rvs K H xs us → Rvs K H (xs.set n v) (us.set n w) := by
  induction xs with
  | nil => intro us v w n r h; cases h; exact .nil
  | cons x xs ih =>
    intro us v w n r h
    cases h with
    | cons h1 h2 =>
      cases n with
      | zero => exact .cons r h2
      | succ n => exact .cons h1 (ih n r h2)
theorem Rvs.eraseIdx {xs : List V} : ∀ {us : List VV} (n : Nat), Rvs K H xs us → Rvs K H (xs.eraseIdx n) (us.eraseIdx n) := by
  induction xs with
  | nil => intro us n h; cases h; exact .nil
  | cons x xs ih =>
    intro us n h
    cases h with
    | cons h1 h2 =>
      cases n with
      | zero => exact h2
      | succ n => exact .cons h1 (ih n h2)
theorem Rvs.ints {ns : List Int} : ∀ {vs : List V}, Rvs K H vs (ns.map VV.int) → vs = ns.map V.int := by
  induction ns with
  | nil => intro vs h; cases h; rfl
  | cons n ns ih => intro vs h; cases h with | cons h1 h2 => cases h1; rw [ih h2]; rfl
theorem Rvs.bls {ns : List Bool} : ∀ {vs : List V}, Rvs K H vs (ns.map VV.bl) → vs = ns.map V.bl := by
  induction ns with
  | nil => intro vs h; cases h; rfl
  | cons n ns ih => intro vs h; cases h with | cons h1 h2 => cases h1; rw [ih h2]; rfl
theorem Rvs.of_ints {ns : List Int} : Rvs K H (ns.map V.int) (ns.map VV.int) := by
  induction ns with
  | nil => exact .nil
  | cons n ns ih => exact .cons (.int n) ih
end

/-! ### the abstract heap of mutable things -/
inductive MO where
  /-- a list of the walk's own -/
  | lst (xs : List VV)
  | dK (kvs : List (Key × VV)) | dT (kvs : List (List Key × VV))
  | ins (C : Addr) (fs : List (Str × VV))
  /-- the law's bag of draws, its state unsaid -/
  | bag
  /-- an exception's dict behind the raise; an exception in the making, its dict in the making -/
  | xd (fs : List (Str × VV)) | xo (C : Addr) (d : Option Addr) (Hf : Hp) | xf (fs : List (Str × VV))
  /-- a thing that is to stay as it is -/
  | fix (o : HO)
  /-- a def's table of code objects, all of this name; what it holds is hidden -/
  | tab (q : Str)
  /-- a dict while a loop walks it -/
  | lk (o : Obj) (xs : List (Key × V)) (kvs : List (Key × VV)) | lkT (o : Obj) (xs : List (List Key × V)) (kvs : List (List Key × VV))
abbrev Mp := Addr → Option MO
def updM (M : Mp) (a : Addr) (o : MO) : Mp := fun b => if b = a then some o else M b
theorem updM_same {M : Mp} {a : Addr} {o : MO} : updM M a o a = some o := by unfold updM; rw [if_pos rfl]
theorem updM_ne {M : Mp} {a b : Addr} {o : MO} (h : b ≠ a) : updM M a o b = M b := by unfold updM; rw [if_neg h]
theorem updM_updM {M : Mp} {a : Addr} {o u : MO} : updM (updM M a o) a u = updM M a u := by
  funext b; unfold updM; split <;> rfl
theorem updM_comm {M : Mp} {a b : Addr} {o u : MO} (h : a ≠ b) : updM (updM M a o) b u = updM (updM M b u) a o := by
  funext c; unfold updM
  by_cases hb : c = b
  · subst hb; rw [if_pos rfl, if_neg (Ne.symm h), if_pos rfl]
  · rw [if_neg hb]
    by_cases ha : c = a
    · rw [if_pos ha, if_pos ha]
    · rw [if_neg ha, if_neg ha, if_neg hb]
theorem updM_id {M : Mp} {a : Addr} {o : MO} (h : M a = some o) : updM M a o = M := by
  funext c; unfold updM; split
  · rename_i e; rw [e, h]
  · rfl
theorem neM {M : Mp} {a b : Addr} {o : MO} (h : M a = some o) (h' : M b = none) : a ≠ b := by
  intro e; subst e; rw [h] at h'; cases h'
theorem neM2 {M : Mp} {a b : Addr} {o u : MO} (h : M a = some o) (h' : M b = some u) (d : o ≠ u) : a ≠ b := by
  intro e; subst e; rw [h] at h'; exact d (Option.some.inj h')

inductive Rkv (K : PySem.W.Frag) (H : Hp) {κ : Type} : List (κ × V) → List (κ × VV) → Prop
  | nil : Rkv K H [] []
  | cons {k : κ} {v : V} {w : VV} {xs : List (κ × V)} {ys : List (κ × VV)} : Rv K H v w → Rkv K H xs ys → Rkv K H ((k, v) :: xs) ((k, w) :: ys)
theorem Rkv.mono {K : PySem.W.Frag} {H H' : Hp} (t : TM H H') {κ : Type} {xs : List (κ × V)} {ys : List (κ × VV)} (h : Rkv K H xs ys) : Rkv K H' xs ys := by
  induction h with
  | nil => exact .nil
  | cons a _ ih => exact .cons (Rv.mono t _ _ a) ih
/-- what of a bag's state is kept -/
structure BagOk (sl sd : Int) (cells : List Int) : Prop where
  sl0 : 0 ≤ sl
  sd0 : 0 ≤ sd
  sd1 : sd < 2147483647
  len : cells.length ≤ 63
/-- a bag at b: its list of numbers stands hidden -/
def BagAt (M : Mp) (H : Hp) (b : Addr) : Prop := ∃ c sl sd cells, H b = some (.lst [.ref c, .int sl, .int sd]) ∧ H c = some (.lst (cells.map V.int)) ∧ M c = none ∧ BagOk sl sd cells
/-- a table at a: each code object that it tells stands hidden -/
def TabAt (M : Mp) (H : Hp) (a : Addr) (q : Str) : Prop := ∃ ps : Array Value, H a = some (.tbl ps) ∧ PySem.TriplesOk ps.toList ∧ ∀ (pos : Pos) (cv : Value), PySem.codeAmong pos ps.toList = some cv → ∃ c, cv = .ref c ∧ H c = some (LamX.CodeO c q) ∧ M c = none
def Ro (K : PySem.W.Frag) (M : Mp) (H : Hp) (a : Addr) : MO → Prop
  | .lst ws => ∃ vs, H a = some (.lst vs) ∧ Rvs K H vs ws
  | .dK kvs => ∃ xs, H a = some (.dK xs) ∧ Rkv K H xs kvs
  | .dT kvs => ∃ xs, H a = some (.dT xs) ∧ Rkv K H xs kvs
  | .ins C fs => ∃ dx gs, H a = some (.ins C dx gs) ∧ Rkv K H gs fs
  | .bag => BagAt M H a ∧ ∀ b, M b = some .bag → b = a
  | .xd fs => ∃ gs, H a = some (.xd gs) ∧ Rkv K H gs fs
  | .xo C d Hf => H a = some (exo a C d) ∧ ∀ b, Hf b ≠ none → H b ≠ none
  | .xf fs => ∃ gs, H a = some (exd a gs) ∧ Rkv K H gs fs
  | .fix o => H a = some o
  | .tab q => TabAt M H a q
  | .lk o xs kvs => H a = some (.frz o (.dK xs)) ∧ Rkv K H xs kvs
  | .lkT o xs kvs => H a = some (.frz o (.dT xs)) ∧ Rkv K H xs kvs
def SimM (K : PySem.W.Frag) (M : Mp) (H : Hp) : Prop := ∀ a o, M a = some o → Ro K M H a o
section
variable {K : PySem.W.Frag} {H H' : Hp} {M M' : Mp} {a p : Addr} {o : MO}
theorem Ro.there (h : Ro K M H a o) : ∃ u, H a = some u := by
  cases o with
  | lst ws => obtain ⟨_, e, _⟩ := h; exact ⟨_, e⟩
  | dK ws => obtain ⟨_, e, _⟩ := h; exact ⟨_, e⟩
  | dT ws => obtain ⟨_, e, _⟩ := h; exact ⟨_, e⟩
  | ins C ws => obtain ⟨_, _, e, _⟩ := h; exact ⟨_, e⟩
  | bag => obtain ⟨⟨_, _, _, _, e, _⟩, _⟩ := h; exact ⟨_, e⟩
  | xd fs => obtain ⟨_, e, _⟩ := h; exact ⟨_, e⟩
  | xo C d Hf => exact ⟨_, h.1⟩
  | xf fs => obtain ⟨_, e, _⟩ := h; exact ⟨_, e⟩
  | fix o => exact ⟨_, h⟩
  | tab q => obtain ⟨_, e, _⟩ := h; exact ⟨_, e⟩
  | lk _ _ ws => exact ⟨_, h.1⟩
  | lkT _ _ ws => exact ⟨_, h.1⟩
theorem SimM.no (s : SimM K M H) (h : H p = none) : M p = none := by
  cases q : M p with
  | none => rfl
  | some o => obtain ⟨u, e⟩ := (s p o q).there; rw [h] at e; cases e
theorem Ro.stay (t : TM H H') (w : ∀ b, H b ≠ none → H' b ≠ none) (e : ∀ u, H a = some u → H' a = some u) (n : ∀ b u, M b = none → H b = some u → H' b = some u ∧ M' b = none) (k : ∀ b, M' b = some .bag → M b = some .bag) : ∀ {o : MO}, Ro K M H a o → Ro K M' H' a o
  | .lst ws, h => let ⟨vs, h1, h2⟩ := h; ⟨vs, e _ h1, Rvs.mono t _ _ h2⟩
  | .dK ws, h => let ⟨vs, h1, h2⟩ := h; ⟨vs, e _ h1, h2.mono t⟩
  | .dT ws, h => let ⟨vs, h1, h2⟩ := h; ⟨vs, e _ h1, h2.mono t⟩
  | .ins C ws, h => let ⟨dx, vs, h1, h2⟩ := h; ⟨dx, vs, e _ h1, h2.mono t⟩
  | .bag, h => let ⟨⟨c, sl, sd, cs, h1, h2, h3, h4⟩, hu⟩ := h; ⟨⟨c, sl, sd, cs, e _ h1, (n _ _ h3 h2).1, (n _ _ h3 h2).2, h4⟩, fun b hb => hu b (k b hb)⟩
  | .xd fs, h => let ⟨vs, h1, h2⟩ := h; ⟨vs, e _ h1, h2.mono t⟩
  | .xo _ _ _, h => ⟨e _ h.1, fun b hb => w b (h.2 b hb)⟩
  | .xf fs, h => let ⟨vs, h1, h2⟩ := h; ⟨vs, e _ h1, h2.mono t⟩
  | .fix _, h => e _ h
  | .tab _, h => let ⟨ps, h1, h2, h3⟩ := h; ⟨ps, e _ h1, h2, fun pos cv hc => let ⟨c, e1, e2, e3⟩ := h3 pos cv hc; ⟨c, e1, (n _ _ e3 e2).1, (n _ _ e3 e2).2⟩⟩
  | .lk _ _ ws, h => ⟨e _ h.1, h.2.mono t⟩
  | .lkT _ _ ws, h => ⟨e _ h.1, h.2.mono t⟩
theorem SimM.alloc {ho : HO} (s : SimM K M H) (h : H p = none) : SimM K M (upd H p ho) := fun a o e =>
  Ro.stay (TM.fresh h) (fun b hb => upd_nn hb) (fun u q => by rw [upd_ne (ne_of_none q h)]; exact q) (fun b u hb q => ⟨by rw [upd_ne (ne_of_none q h)]; exact q, hb⟩) (fun _ h => h) (s a o e)
/-- what is written at p alone -/
theorem SimM.put {ho : HO} (s : SimM K M H) (t : TM H (upd H p ho)) (hp : H p = none ∨ ∃ u, M p = some u) (nb : o ≠ .bag) (n : Ro K (updM M p o) (upd H p ho) p o) : SimM K (updM M p o) (upd H p ho) := fun a u e => by
  by_cases ha : a = p
  · subst ha; rw [updM_same] at e; cases e; exact n
  · rw [updM_ne ha] at e
    refine Ro.stay t (fun b hb => upd_nn hb) (fun z q => by rw [upd_ne ha]; exact q) (fun b u hb q => ?_) (fun b hb => ?_) (s a u e)
    · have : b ≠ p := by
        rintro rfl
        rcases hp with hp | ⟨u, hp⟩
        · rw [hp] at q; cases q
        · rw [hp] at hb; cases hb
      exact ⟨by rw [upd_ne this]; exact q, by rw [updM_ne this]; exact hb⟩
    · by_cases hbp : b = p
      · subst hbp; rw [updM_same] at hb; exact absurd (Option.some.inj hb) nb
      · rw [updM_ne hbp] at hb; exact hb
theorem SimM.putL {vs : List V} {ws : List VV} (s : SimM K M H) (t : TM H (upd H p (.lst vs))) (hp : H p = none ∨ ∃ u, M p = some u) (r : Rvs K H vs ws) : SimM K (updM M p (.lst ws)) (upd H p (.lst vs)) :=
  SimM.put s t hp (by intro z; cases z) (o := .lst ws) ⟨vs, upd_same, Rvs.mono t _ _ r⟩
def LeM (M M' : Mp) : Prop := ∀ a o, M a = some o → M' a = some o
theorem LeM.refl : LeM M M := fun _ _ h => h
theorem LeM.trans {M1 : Mp} (h : LeM M M1) (k : LeM M1 M') : LeM M M' := fun a o e => k a o (h a o e)
theorem LeM.put (h : LeM M M') (n : M p = none) : LeM M (updM M' p o) := fun a u e => by
  rw [updM_ne (neM e n)]; exact h a u e
/-- what is no longer asked for is let go -/
theorem SimM.sub (s : SimM K M' H) (l : LeM M M') : SimM K M H := fun a o e =>
  Ro.stay (M := M') TM.refl (fun _ h => h) (fun _ h => h) (fun b u hb q => ⟨q, by
    cases z : M b with
    | none => rfl
    | some o => rw [l b o z] at hb; cases hb⟩) (fun b hb => l b _ hb) (s a o (l a o e))
/-- into a bag -/
theorem SimM.opn {b : Addr} (s : SimM K M H) (h : M b = some .bag) : ∃ c sl sd cells, BagOk sl sd cells ∧ M c = none ∧ c ≠ b ∧
    SimM K (updM (updM M b (.lst [.ref c, .int sl, .int sd])) c (.lst (cells.map VV.int))) H := by
  obtain ⟨⟨c, sl, sd, cells, h1, h2, h3, h4⟩, hu⟩ := s b _ h
  have hcb : c ≠ b := by rintro rfl; rw [h] at h3; cases h3
  refine ⟨c, sl, sd, cells, h4, h3, hcb, fun a o e => ?_⟩
  by_cases hac : a = c
  · subst hac; rw [updM_same] at e; cases e
    exact ⟨_, h2, Rvs.of_ints⟩
  · rw [updM_ne hac] at e
    by_cases hab : a = b
    · subst hab; rw [updM_same] at e; cases e
      exact ⟨_, h1, .cons (.ref _) (.cons (.int _) (.cons (.int _) .nil))⟩
    · rw [updM_ne hab] at e
      have nb : o ≠ .bag := by rintro rfl; exact hab (hu a e)
      have z := s a o e
      cases o with
      | bag => exact absurd rfl nb
      | tab q2 =>
        obtain ⟨ps, t1, t2, t3⟩ := z
        refine ⟨ps, t1, t2, fun pos cv hcv => ?_⟩
        obtain ⟨d, u1, u2, u3⟩ := t3 pos cv hcv
        refine ⟨d, u1, u2, ?_⟩
        rw [updM_ne (fun z => by subst z; rw [h2] at u2; unfold LamX.CodeO at u2; cases u2), updM_ne (fun z => by subst z; rw [h] at u3; cases u3)]
        exact u3
      | _ => exact z
/-- out of it -/
theorem SimM.cls {b c : Addr} {sl sd : Int} {cells : List Int} (s : SimM K M' H) (h1 : M' b = some (.lst [.ref c, .int sl, .int sd])) (h2 : M' c = some (.lst (cells.map VV.int))) (hb : BagOk sl sd cells) (nb : ∀ a, M' a ≠ some .bag)
    (hM : M b = some .bag) (hc : M c = none) (l : ∀ a o, M a = some o → a ≠ b → M' a = some o) : SimM K M H := fun a o e => by
  by_cases ha : a = b
  · subst ha; rw [hM] at e; cases e
    obtain ⟨vs, e1, r1⟩ := s a _ h1
    obtain ⟨us, e2, r2⟩ := s c _ h2
    have r2' := Rvs.ints r2
    subst r2'
    cases r1 with | cons x1 r1 => cases r1 with | cons x2 r1 => cases r1 with | cons x3 r1 =>
    cases r1; cases x1; cases x2; cases x3
    refine ⟨⟨c, sl, sd, cells, e1, e2, hc, hb⟩, fun b' q => ?_⟩
    by_cases hb' : b' = a
    · exact hb'
    · exact absurd (l b' _ q hb') (nb b')
  · have q := l a o e ha
    have z := s a o q
    have nbo : o ≠ .bag := by rintro rfl; exact nb a q
    cases o with
    | bag => exact absurd rfl nbo
    | tab q2 =>
      obtain ⟨ps, t1, t2, t3⟩ := z
      refine ⟨ps, t1, t2, fun pos cv hcv => ?_⟩
      obtain ⟨d, u1, u2, u3⟩ := t3 pos cv hcv
      refine ⟨d, u1, u2, ?_⟩
      cases hm : M d with
      | none => rfl
      | some o2 =>
        by_cases hd : d = b
        · subst hd; rw [h1] at u3; cases u3
        · rw [l d o2 hm hd] at u3; cases u3
    | _ => exact z
end
end G3

set_option Elab.async false
set_option linter.all false
set_option maxRecDepth 100000
set_option maxHeartbeats 4000000
/-! L3: judgements in weakest form and the rules of expressions -/
namespace G3
open PySem PySem.Spec L2

section
variable (X : Cx)
def wE (e : Expr) : TE := fun σ H Q => ∀ pins s, Inv X pins σ H s → wpAny (model X.prog X.w) X.A (eval e X.env) (EP X pins σ Q) X.xe s
def wT (e : Expr) : TT := fun σ H Q => ∀ pins s, Inv X pins σ H s → wpAny (model X.prog X.w) X.A (isTrue e X.env (eval e X.env)) (TP X pins σ Q) X.xe s
def wW (e : Expr) : TT := fun σ H Q => ∀ whole pins s, Inv X pins σ H s → wpAny (model X.prog X.w) X.A (isTrue e X.env whole) (TP X pins σ Q) X.xe s
def wA (es : List Expr) : TA := fun σ H Q => ∀ pos pins s, Inv X pins σ H s → wpAny (model X.prog X.w) X.A (spliced (backTo pos (starEach es X.env))) (AP X pins σ Q) X.xe s
def wS (st : Stmt) : TS := fun D σ H => ∀ pins s, Inv X pins σ H s → wpAny (model X.prog X.w) X.A (exec st X.env) (SP X pins D) X.xe s
def wSs (st : List Stmt) : TS := fun D σ H => ∀ pins s, Inv X pins σ H s → wpAny (model X.prog X.w) X.A (execs st X.env) (SP X pins D) X.xe s
def wG (tg : Expr) : TG := fun v σ H Q => ∀ pins s u, Inv X pins σ H s → RelV v u → wpAny (model X.prog X.w) X.A (assign tg X.env u) (fun _ s' => ∃ σ' H', Inv X pins σ' H' s' ∧ Q σ' H') X.xe s
def wGs (ts : List Expr) : TGs := fun vs σ H Q => ∀ pins s us, Inv X pins σ H s → Vals vs us → wpAny (model X.prog X.w) X.A (assignInOrder ((assignEach ts X.env).map (·.2)) us) (fun _ s' => ∃ σ' H', Inv X pins σ' H' s' ∧ Q σ' H') X.xe s
def wOp (f : Value → Value → Sem Value) : R2 := fun x y H Q => ∀ pins s σ v u, Inv X pins σ H s → RelV x v → RelV y u → wpAny (model X.prog X.w) X.A (f v u) (EP X pins σ Q) X.xe s
def wUn (f : Value → Sem Value) : V → Hp → VK → Prop := fun x H Q => ∀ pins s σ v, Inv X pins σ H s → RelV x v → wpAny (model X.prog X.w) X.A (f v) (EP X pins σ Q) X.xe s
def wCall (f : Value) : List V → Hp → VK → Prop := fun xs H Q => ∀ pins s σ us, Inv X pins σ H s → Vals xs us → wpAny (model X.prog X.w) X.A (call f us) (EP X pins σ Q) X.xe s
def wIx : R2 := fun x y H Q => ∀ value slice pins s σ v u, Inv X pins σ H s → RelV x v → RelV y u → subscripted slice false v u = operate [v, u] (getItem v u) → wpAny (model X.prog X.w) X.A (PyProof.Rows.subscriptTail value slice v u) (EP X pins σ Q) X.xe s
def wMt (id : String) : V → List V → Hp → VK → Prop := fun x xs H Q => ∀ pins s σ v us, Inv X pins σ H s → RelV x v → Vals xs us → wpAny (model X.prog X.w) X.A (call (.builtin id) (v :: us)) (EP X pins σ Q) X.xe s
def wSet : TSet := fun o i v H Q => ∀ pins s σ ov iv u, Inv X pins σ H s → RelV o ov → RelV i iv → RelV v u → wpAny (model X.prog X.w) X.A (setItem ov iv u) (fun _ s' => ∃ H', Inv X pins σ H' s' ∧ Q H') X.xe s
end
section
variable {X : Cx}
theorem wE.pe {e} : PE X e (wE X e) := ⟨fun pins s σ H Q I h => h pins s I⟩
theorem wT.pt {e} : PT X e (wT X e) := ⟨fun pins s σ H Q I h => h pins s I⟩
theorem wW.pw {e} : PW X e (wW X e) := ⟨fun wh pins s σ H Q I h => h wh pins s I⟩
theorem wA.pa {e} : PA X e (wA X e) := ⟨fun p pins s σ H Q I h => h p pins s I⟩
theorem wS.ps {e} : PS X e (wS X e) := ⟨fun pins s σ H D I h => h pins s I⟩
theorem wSs.pss {e} : PSs X e (wSs X e) := ⟨fun pins s σ H D I h => h pins s I⟩
theorem wG.pg {e} : PG X e (wG X e) := ⟨fun pins s σ H v u Q I r h => h pins s u I r⟩
theorem wGs.pgs {e} : PGs X e (wGs X e) := ⟨fun pins s σ H vs us Q I r h => h pins s us I r⟩
theorem wOp.op {f} : OpR X f (wOp X f) := fun pins s σ H x y v u Q I r1 r2 h => h pins s σ v u I r1 r2
theorem wUn.un {f} : UnR X f (wUn X f) := fun pins s σ H x v Q I r1 h => h pins s σ v I r1
theorem wCall.cr {f} : CallR X f (wCall X f) := fun pins s σ H xs us Q I r1 h => h pins s σ us I r1
theorem wIx.ix : IxR X (wIx X) := fun va sl pins s σ H x y v u Q I r1 r2 h e => h va sl pins s σ v u I r1 r2 e
theorem wMt.mt {id} : MtR X id (wMt X id) := fun pins s σ H x xs v us Q I r1 r2 h => h pins s σ v us I r1 r2
theorem wSet.ps : PSet X (wSet X) := fun pins s σ H o i v ov iv u Q I r1 r2 r3 h => h pins s σ ov iv u I r1 r2 r3

theorem wE.of {e t σ H Q} (p : PE X e t) (h : t σ H Q) : wE X e σ H Q := fun pins s I => p.run pins s σ H Q I h
theorem wT.of {e t σ H Q} (p : PT X e t) (h : t σ H Q) : wT X e σ H Q := fun pins s I => p.run pins s σ H Q I h
theorem wW.of {e t σ H Q} (p : PW X e t) (h : t σ H Q) : wW X e σ H Q := fun wh pins s I => p.run wh pins s σ H Q I h
theorem wA.of {e t σ H Q} (p : PA X e t) (h : t σ H Q) : wA X e σ H Q := fun po pins s I => p.run po pins s σ H Q I h
theorem wS.of {e t σ H D} (p : PS X e t) (h : t D σ H) : wS X e D σ H := fun pins s I => p.run pins s σ H D I h
theorem wSs.of {e t σ H D} (p : PSs X e t) (h : t D σ H) : wSs X e D σ H := fun pins s I => p.run pins s σ H D I h
theorem wG.of {e t v σ H Q} (p : PG X e t) (h : t v σ H Q) : wG X e v σ H Q := fun pins s u I r => p.run pins s σ H v u Q I r h
theorem wGs.of {e t v σ H Q} (p : PGs X e t) (h : t v σ H Q) : wGs X e v σ H Q := fun pins s u I r => p.run pins s σ H v u Q I r h
theorem wOp.of {f} {r : R2} {x y H Q} (p : OpR X f r) (h : r x y H Q) : wOp X f x y H Q := fun pins s σ v u I r1 r2 => p pins s σ H x y v u Q I r1 r2 h
theorem wUn.of {f} {r : V → Hp → VK → Prop} {x H Q} (p : UnR X f r) (h : r x H Q) : wUn X f x H Q := fun pins s σ v I r1 => p pins s σ H x v Q I r1 h
theorem wCall.of {f} {r : List V → Hp → VK → Prop} {xs H Q} (p : CallR X f r) (h : r xs H Q) : wCall X f xs H Q := fun pins s σ us I r1 => p pins s σ H xs us Q I r1 h
theorem wIx.of {r : R2} {x y H Q} (p : IxR X r) (h : r x y H Q) : wIx X x y H Q := fun va sl pins s σ v u I r1 r2 e => p va sl pins s σ H x y v u Q I r1 r2 h e
theorem wMt.of {id} {r : V → List V → Hp → VK → Prop} {x xs H Q} (p : MtR X id r) (h : r x xs H Q) : wMt X id x xs H Q := fun pins s σ v us I r1 r2 => p pins s σ H x xs v us Q I r1 r2 h
theorem wSet.of {r : TSet} {o i v H Q} (p : PSet X r) (h : r o i v H Q) : wSet X o i v H Q := fun pins s σ ov iv u I r1 r2 r3 => p pins s σ H o i v ov iv u Q I r1 r2 r3 h

theorem EP.mono {pins σ} {Q Q' : VK} {u s} (h : EP X pins σ Q u s) (k : ∀ v H, Q v H → Q' v H) : EP X pins σ Q' u s :=
  let ⟨v, H, I, r, q⟩ := h; ⟨v, H, I, r, k v H q⟩
theorem TP.mono {pins σ} {Q Q' : Bool → Hp → Prop} {u s} (h : TP X pins σ Q u s) (k : ∀ v H, Q v H → Q' v H) : TP X pins σ Q' u s :=
  let ⟨H, I, q⟩ := h; ⟨H, I, k _ H q⟩
theorem AP.mono {pins σ} {Q Q' : List V → Hp → Prop} {u s} (h : AP X pins σ Q u s) (k : ∀ v H, Q v H → Q' v H) : AP X pins σ Q' u s :=
  let ⟨v, H, I, r, q⟩ := h; ⟨v, H, I, r, k v H q⟩
theorem SP.mono {pins} {D D' : Ends} {f s} (h : SP X pins D f s) (k1 : ∀ v H, D.nx v H → D'.nx v H) (k2 : ∀ v H, D.rt v H → D'.rt v H) (k3 : ∀ v H, D.bk v H → D'.bk v H) (k4 : ∀ v H, D.ct v H → D'.ct v H) : SP X pins D' f s := by
  cases f with
  | next => obtain ⟨σ', H', I, q⟩ := h; exact ⟨σ', H', I, k1 _ _ q⟩
  | brk => obtain ⟨σ', H', I, q⟩ := h; exact ⟨σ', H', I, k3 _ _ q⟩
  | cont => obtain ⟨σ', H', I, q⟩ := h; exact ⟨σ', H', I, k4 _ _ q⟩
  | ret u => obtain ⟨v, σ', H', I, r, q⟩ := h; exact ⟨v, σ', H', I, r, k2 _ _ q⟩
theorem wE.mono {e σ H} {Q Q' : VK} (h : wE X e σ H Q) (k : ∀ v H, Q v H → Q' v H) : wE X e σ H Q' := fun pins s I => thn (h pins s I) fun _ _ z => EP.mono z k
theorem wT.mono {e σ H} {Q Q' : Bool → Hp → Prop} (h : wT X e σ H Q) (k : ∀ v H, Q v H → Q' v H) : wT X e σ H Q' := fun pins s I => thn (h pins s I) fun _ _ z => TP.mono z k
theorem wW.mono {e σ H} {Q Q' : Bool → Hp → Prop} (h : wW X e σ H Q) (k : ∀ v H, Q v H → Q' v H) : wW X e σ H Q' := fun wh pins s I => thn (h wh pins s I) fun _ _ z => TP.mono z k
theorem wA.mono {e σ H} {Q Q' : List V → Hp → Prop} (h : wA X e σ H Q) (k : ∀ v H, Q v H → Q' v H) : wA X e σ H Q' := fun po pins s I => thn (h po pins s I) fun _ _ z => AP.mono z k
theorem wSs.mono {e σ H} {D D' : Ends} (h : wSs X e D σ H) (k1 : ∀ v H, D.nx v H → D'.nx v H) (k2 : ∀ v H, D.rt v H → D'.rt v H) (k3 : ∀ v H, D.bk v H → D'.bk v H) (k4 : ∀ v H, D.ct v H → D'.ct v H) : wSs X e D' σ H := fun pins s I => thn (h pins s I) fun _ _ z => SP.mono z k1 k2 k3 k4
theorem wOp.mono {f x y H} {Q Q' : VK} (h : wOp X f x y H Q) (k : ∀ v H, Q v H → Q' v H) : wOp X f x y H Q' := fun pins s σ v u I r1 r2 => thn (h pins s σ v u I r1 r2) fun _ _ z => EP.mono z k
theorem wUn.mono {f x H} {Q Q' : VK} (h : wUn X f x H Q) (k : ∀ v H, Q v H → Q' v H) : wUn X f x H Q' := fun pins s σ v I r1 => thn (h pins s σ v I r1) fun _ _ z => EP.mono z k
theorem wCall.mono {f xs H} {Q Q' : VK} (h : wCall X f xs H Q) (k : ∀ v H, Q v H → Q' v H) : wCall X f xs H Q' := fun pins s σ us I r1 => thn (h pins s σ us I r1) fun _ _ z => EP.mono z k
theorem wIx.mono {x y H} {Q Q' : VK} (h : wIx X x y H Q) (k : ∀ v H, Q v H → Q' v H) : wIx X x y H Q' := fun va sl pins s σ v u I r1 r2 e => thn (h va sl pins s σ v u I r1 r2 e) fun _ _ z => EP.mono z k
theorem wMt.mono {id x xs H} {Q Q' : VK} (h : wMt X id x xs H Q) (k : ∀ v H, Q v H → Q' v H) : wMt X id x xs H Q' := fun pins s σ v us I r1 r2 => thn (h pins s σ v us I r1 r2) fun _ _ z => EP.mono z k
theorem wG.mono {e v σ H} {Q Q' : St → Hp → Prop} (h : wG X e v σ H Q) (k : ∀ v H, Q v H → Q' v H) : wG X e v σ H Q' := fun pins s u I r1 => thn (h pins s u I r1) fun _ _ ⟨a, b, c, d⟩ => ⟨a, b, c, k _ _ d⟩
theorem wSet.mono {o i v H} {Q Q' : Hp → Prop} (h : wSet X o i v H Q) (k : ∀ H, Q H → Q' H) : wSet X o i v H Q' := fun pins s σ ov iv u I r1 r2 r3 => thn (h pins s σ ov iv u I r1 r2 r3) fun _ _ ⟨b, c, d⟩ => ⟨b, c, k _ d⟩
end

/-! ### slots and ends by values -/
abbrev St3 := List (Option VV)
abbrev VQ := VV → Mp → Prop
structure En where
  nx : St3 → Mp → Prop
  rt : VQ
  bk : St3 → Mp → Prop := fun _ _ => False
  ct : St3 → Mp → Prop := fun _ _ => False
structure Slots (K : PySem.W.Frag) (H : Hp) (σ' : St) (σ : St3) : Prop where
  len : σ'.length = σ.length
  get : ∀ (i : Nat) (w : VV), σ[i]? = some (some w) → ∃ v, σ'[i]? = some (some v) ∧ Rv K H v w
section
variable {K : PySem.W.Frag} {H H' : Hp} {σ' : St} {σ : St3}
theorem Slots.mono (s : Slots K H σ' σ) (t : TM H H') : Slots K H' σ' σ := ⟨s.len, fun i w e => let ⟨v, a, b⟩ := s.get i w e; ⟨v, a, Rv.mono t _ _ b⟩⟩
theorem Slots.set {v : V} {w : VV} (s : Slots K H σ' σ) (i : Nat) (r : Rv K H v w) : Slots K H (σ'.set i (some v)) (σ.set i (some w)) := by
  refine ⟨by simp [s.len], fun j u e => ?_⟩
  by_cases h : i = j
  · subst h
    have hl : i < σ.length := by
      have := (List.getElem?_eq_some_iff.mp e).1; simpa using this
    rw [List.getElem?_set_self hl] at e
    cases e
    exact ⟨v, List.getElem?_set_self (by rw [s.len]; exact hl), r⟩
  · rw [List.getElem?_set_ne h] at e
    rw [List.getElem?_set_ne h]
    exact s.get j u e
/-- what a slot holds is let go -/
theorem Slots.unset (s : Slots K H σ' σ) (i : Nat) : Slots K H σ' (σ.set i none) := by
  refine ⟨by simp [s.len], fun j u e => ?_⟩
  by_cases h : i = j
  · subst h
    have hl : i < σ.length := by
      have := (List.getElem?_eq_some_iff.mp e).1; simpa using this
    rw [List.getElem?_set_self hl] at e
    cases e
  · rw [List.getElem?_set_ne h] at e
    exact s.get j u e
theorem Slots.start {vs : List V} {ws : List VV} (r : Rvs K H vs ws) (N : List Str) : Slots K H (L2.start N vs) (ws.map some ++ List.replicate (N.length - ws.length) none) := by
  refine ⟨by simp [L2.start, r.length], fun i w e => ?_⟩
  by_cases hi : i < ws.length
  · rw [List.getElem?_append_left (by simpa using hi), List.getElem?_map] at e
    cases q : ws[i]? with
    | none => rw [q] at e; cases e
    | some u =>
      rw [q] at e; cases e
      obtain ⟨v, a, b⟩ := r.get q
      refine ⟨v, ?_, b⟩
      unfold L2.start
      rw [List.getElem?_append_left (by rw [List.length_map, r.length]; exact hi), List.getElem?_map, a]; rfl
  · rw [List.getElem?_append_right (by simpa using hi), List.getElem?_replicate] at e
    split at e <;> cases e
end
/-! posts -/
def PoE (K : PySem.W.Frag) (H : Hp) (Q : VQ) : VK := fun v H' => ∃ w M', TM H H' ∧ SimM K M' H' ∧ Rv K H' v w ∧ Q w M'
def PoB (K : PySem.W.Frag) (H : Hp) (Q : Bool → Mp → Prop) : Bool → Hp → Prop := fun b H' => ∃ M', TM H H' ∧ SimM K M' H' ∧ Q b M'
def PoA (K : PySem.W.Frag) (H : Hp) (Q : List VV → Mp → Prop) : List V → Hp → Prop := fun vs H' => ∃ ws M', TM H H' ∧ SimM K M' H' ∧ Rvs K H' vs ws ∧ Q ws M'
def PoN (K : PySem.W.Frag) (H : Hp) (Q : Mp → Prop) : Hp → Prop := fun H' => ∃ M', TM H H' ∧ SimM K M' H' ∧ Q M'
def PoS (K : PySem.W.Frag) (H : Hp) (Q : St3 → Mp → Prop) : St → Hp → Prop := fun σ' H' => ∃ σ M', TM H H' ∧ Slots K H' σ' σ ∧ SimM K M' H' ∧ Q σ M'
def PoR (K : PySem.W.Frag) (H : Hp) (Q : VQ) : VK := fun v H' => ∃ w M', TM H H' ∧ SimM K M' H' ∧ Rv K H' v w ∧ Q w M'
def PoD (K : PySem.W.Frag) (H : Hp) (D : En) : Ends := ⟨PoS K H D.nx, PoR K H D.rt, PoS K H D.bk, PoS K H D.ct⟩
theorem PoS.tr {K H H1 Q σ' H'} (t : TM H H1) (h : PoS K H1 Q σ' H') : PoS K H Q σ' H' := let ⟨σ, M, a, b⟩ := h; ⟨σ, M, t.trans a, b⟩
theorem PoR.tr {K H H1 Q v H'} (t : TM H H1) (h : PoR K H1 Q v H') : PoR K H Q v H' := let ⟨σ, M, a, b⟩ := h; ⟨σ, M, t.trans a, b⟩
theorem PoE.tr {K H H1 Q v H'} (t : TM H H1) (h : PoE K H1 Q v H') : PoE K H Q v H' := let ⟨w, M, a, b⟩ := h; ⟨w, M, t.trans a, b⟩
theorem PoB.tr {K H H1 Q v H'} (t : TM H H1) (h : PoB K H1 Q v H') : PoB K H Q v H' := let ⟨M, a, b⟩ := h; ⟨M, t.trans a, b⟩
theorem PoA.tr {K H H1 Q v H'} (t : TM H H1) (h : PoA K H1 Q v H') : PoA K H Q v H' := let ⟨w, M, a, b⟩ := h; ⟨w, M, t.trans a, b⟩
theorem PoN.tr {K H H1 Q H'} (t : TM H H1) (h : PoN K H1 Q H') : PoN K H Q H' := let ⟨M, a, b⟩ := h; ⟨M, t.trans a, b⟩

/-! judgements -/
section
variable (X : Cx)
def WE (e : Expr) (σ : St3) (M : Mp) (Q : VQ) : Prop := ∀ σ' H, Slots X.K H σ' σ → SimM X.K M H → wE X e σ' H (PoE X.K H Q)
def WT (e : Expr) (σ : St3) (M : Mp) (Q : Bool → Mp → Prop) : Prop := ∀ σ' H, Slots X.K H σ' σ → SimM X.K M H → wT X e σ' H (PoB X.K H Q)
def WW (e : Expr) (σ : St3) (M : Mp) (Q : Bool → Mp → Prop) : Prop := ∀ σ' H, Slots X.K H σ' σ → SimM X.K M H → wW X e σ' H (PoB X.K H Q)
def WA (es : List Expr) (σ : St3) (M : Mp) (Q : List VV → Mp → Prop) : Prop := ∀ σ' H, Slots X.K H σ' σ → SimM X.K M H → wA X es σ' H (PoA X.K H Q)
def WS (st : Stmt) (σ : St3) (M : Mp) (D : En) : Prop := ∀ σ' H, Slots X.K H σ' σ → SimM X.K M H → wS X st (PoD X.K H D) σ' H
def WSs (st : List Stmt) (σ : St3) (M : Mp) (D : En) : Prop := ∀ σ' H, Slots X.K H σ' σ → SimM X.K M H → wSs X st (PoD X.K H D) σ' H
def WG (tg : Expr) (w : VV) (σ : St3) (M : Mp) (Q : St3 → Mp → Prop) : Prop := ∀ σ' H v, Slots X.K H σ' σ → SimM X.K M H → Rv X.K H v w → wG X tg v σ' H (PoS X.K H Q)
def WGs (tg : List Expr) (ws : List VV) (σ : St3) (M : Mp) (Q : St3 → Mp → Prop) : Prop := ∀ σ' H vs, Slots X.K H σ' σ → SimM X.K M H → Rvs X.K H vs ws → wGs X tg vs σ' H (PoS X.K H Q)
def O2 (f : Value → Value → Sem Value) (x y : VV) (M : Mp) (Q : VQ) : Prop := ∀ H v u, SimM X.K M H → Rv X.K H v x → Rv X.K H u y → wOp X f v u H (PoE X.K H Q)
def O1 (f : Value → Sem Value) (x : VV) (M : Mp) (Q : VQ) : Prop := ∀ H v, SimM X.K M H → Rv X.K H v x → wUn X f v H (PoE X.K H Q)
def OC (f : Value) (xs : List VV) (M : Mp) (Q : VQ) : Prop := ∀ H vs, SimM X.K M H → Rvs X.K H vs xs → wCall X f vs H (PoE X.K H Q)
def OI (x y : VV) (M : Mp) (Q : VQ) : Prop := ∀ H v u, SimM X.K M H → Rv X.K H v x → Rv X.K H u y → wIx X v u H (PoE X.K H Q)
def OM (id : String) (x : VV) (xs : List VV) (M : Mp) (Q : VQ) : Prop := ∀ H v vs, SimM X.K M H → Rv X.K H v x → Rvs X.K H vs xs → wMt X id v vs H (PoE X.K H Q)
def OSet (o i y : VV) (M : Mp) (Q : Mp → Prop) : Prop := ∀ H v1 v2 v3, SimM X.K M H → Rv X.K H v1 o → Rv X.K H v2 i → Rv X.K H v3 y → wSet X v1 v2 v3 H (PoN X.K H Q)
end
section
variable {X : Cx} {a b c e : Expr} {es : List Expr} {σ : St3} {M : Mp} {Q : VQ} {pos : Pos}
/-- run e, go on with its value -/
theorem WE.run {R : VQ} (h : WE X e σ M R) {σ' : St} {H : Hp} (s : Slots X.K H σ' σ) (m : SimM X.K M H) {P : VK}
    (k : ∀ v H1 x M1, TM H H1 → SimM X.K M1 H1 → Rv X.K H1 v x → Slots X.K H1 σ' σ → R x M1 → P v H1) : wE X e σ' H P :=
  (h σ' H s m).mono fun v H1 ⟨x, M1, t, m1, r, q⟩ => k v H1 x M1 t m1 r (s.mono t) q
theorem WT.run {R : Bool → Mp → Prop} (h : WT X e σ M R) {σ' : St} {H : Hp} (s : Slots X.K H σ' σ) (m : SimM X.K M H) {P : Bool → Hp → Prop}
    (k : ∀ v H1 M1, TM H H1 → SimM X.K M1 H1 → Slots X.K H1 σ' σ → R v M1 → P v H1) : wT X e σ' H P :=
  (h σ' H s m).mono fun v H1 ⟨M1, t, m1, q⟩ => k v H1 M1 t m1 (s.mono t) q
theorem WA.run {R : List VV → Mp → Prop} (h : WA X es σ M R) {σ' : St} {H : Hp} (s : Slots X.K H σ' σ) (m : SimM X.K M H) {P : List V → Hp → Prop}
    (k : ∀ v H1 x M1, TM H H1 → SimM X.K M1 H1 → Rvs X.K H1 v x → Slots X.K H1 σ' σ → R x M1 → P v H1) : wA X es σ' H P :=
  (h σ' H s m).mono fun v H1 ⟨x, M1, t, m1, r, q⟩ => k v H1 x M1 t m1 r (s.mono t) q
theorem WE.mono {R : VQ} (h : WE X e σ M R) (k : ∀ w M', R w M' → Q w M') : WE X e σ M Q := fun σ' H s m =>
  (h σ' H s m).mono fun v H1 ⟨x, M1, t, m1, r, q⟩ => ⟨x, M1, t, m1, r, k _ _ q⟩
/-- forget what is not asked for -/
theorem WE.sub {M0 : Mp} (h : WE X e σ M0 Q) (l : LeM M0 M) : WE X e σ M Q := fun σ' H s m => h σ' H s (m.sub l)
theorem WSs.sub {M0 : Mp} {st : List Stmt} {D : En} (h : WSs X st σ M0 D) (l : LeM M0 M) : WSs X st σ M D := fun σ' H s m => h σ' H s (m.sub l)
theorem WSs.mono {st : List Stmt} {D D' : En} (h : WSs X st σ M D) (k1 : ∀ σ M, D.nx σ M → D'.nx σ M) (k2 : ∀ w M, D.rt w M → D'.rt w M) (k3 : ∀ σ M, D.bk σ M → D'.bk σ M) (k4 : ∀ σ M, D.ct σ M → D'.ct σ M) : WSs X st σ M D' := fun σ' H s m =>
  (h σ' H s m).mono (fun _ _ ⟨a, b, t, c, d, e⟩ => ⟨a, b, t, c, d, k1 _ _ e⟩) (fun _ _ ⟨a, b, t, c, d, e⟩ => ⟨a, b, t, c, d, k2 _ _ e⟩) (fun _ _ ⟨a, b, t, c, d, e⟩ => ⟨a, b, t, c, d, k3 _ _ e⟩) (fun _ _ ⟨a, b, t, c, d, e⟩ => ⟨a, b, t, c, d, k4 _ _ e⟩)
theorem PoE.mk {K : PySem.W.Frag} {H : Hp} {w : VV} {v : V} (m : SimM K M H) (r : Rv K H v w) (q : Q w M) : PoE K H Q v H := ⟨w, M, TM.refl, m, r, q⟩

/-! ### names and constants -/
theorem we_name (i : Nat) {x : Str} {w : VV} (hN : X.N[i]? = some x) (hv : Vis X.env.scope x) (hs : σ[i]? = some (some w)) (q : Q w M) (hd : (x == ("__debug__" : Str)) = false := by decide) (hcd : (x == ("__classdict__" : Str)) = false := by decide) : WE X (.Name x pos) σ M Q :=
  fun σ' H s m => wE.of (pe_var (i := i) hN hv hd hcd) (let ⟨v, e, r⟩ := s.get i w hs; ⟨v, e, .mk m r q⟩)
theorem we_int {i j} (q : Q (.int i) M) : WE X (.Constant (.int i) j pos) σ M Q := fun _ _ s m => wE.of pe_int (PoE.mk m (.int i) q)
theorem we_bl {i j} (q : Q (.bl i) M) : WE X (.Constant (.bool i) j pos) σ M Q := fun _ _ s m => wE.of pe_bl (PoE.mk m (.bl i) q)
theorem we_non {j} (q : Q .non M) : WE X (.Constant .none j pos) σ M Q := fun _ _ s m => wE.of pe_non (PoE.mk m .non q)
theorem we_str {i j} (q : Q (.str i) M) : WE X (.Constant (.str i) j pos) σ M Q := fun _ _ s m => wE.of pe_str (PoE.mk m (.str i) q)
/-- a global's value, by what stands in the fragment -/
theorem we_glob {x : Str} {v : V} {u : Value} {w : VV} (hg : Gl X x) (hm : X.mg x = some u) (r : RelV v u) (rw : ∀ H, Rv X.K H v w) (q : Q w M) (hd : (x == ("__debug__" : Str)) = false := by decide) : WE X (.Name x pos) σ M Q :=
  fun _ H s m => wE.of (pe_glob hg hm r hd) (PoE.mk m (rw H) q)
theorem we_ty {x : Str} {n : String} (hg : Gl X x) (hm : X.mg x = none) (hv : bootBuiltins x = some (.type n)) (q : Q (.ty n) M) (hn : x ≠ "__name__" := by decide) (hd : (x == ("__debug__" : Str)) = false := by decide) : WE X (.Name x pos) σ M Q :=
  fun _ H s m => wE.of (pe_bltn (v := .ty n) hg hm hv rfl hn hd) (PoE.mk m (.ty n) q)

/-! ### operations -/
theorem we_op {op} (h : WE X a σ M fun x M1 => WE X b σ M1 fun y M2 => O2 X (binaryOp op) x y M2 Q) : WE X (.BinOp a op b pos) σ M Q := fun σ' H s m =>
  wE.of (pe_op wOp.op wE.pe wE.pe) (h.run s m fun v H1 x M1 t1 m1 r1 s1 q1 => q1.run s1 m1 fun u H2 y M2 t2 m2 r2 s2 q2 => wOp.mono (q2 H2 v u m2 (Rv.mono t2 _ _ r1) r2) fun _ _ z => PoE.tr (t1.trans t2) z)
theorem we_un {op} (h : WE X a σ M fun x M1 => O1 X (unaryOp op) x M1 Q) : WE X (.UnaryOp op a pos) σ M Q := fun σ' H s m =>
  wE.of (pe_un wUn.un wE.pe) (h.run s m fun v H1 x M1 t1 m1 r1 s1 q1 => wUn.mono (q1 H1 v m1 r1) fun _ _ z => PoE.tr t1 z)
theorem we_cmp {op} (h : WE X a σ M fun x M1 => WE X b σ M1 fun y M2 => O2 X (compareOp op) x y M2 Q) (hm : behindInMarks op b = false := by first | exact nomark _ | rfl | with_unfolding_all rfl) : WE X (.Compare a [op] [b] pos) σ M Q := fun σ' H s m =>
  wE.of (pe_cmpR wOp.op wE.pe wE.pe hm) (h.run s m fun v H1 x M1 t1 m1 r1 s1 q1 => q1.run s1 m1 fun u H2 y M2 t2 m2 r2 s2 q2 => wOp.mono (q2 H2 v u m2 (Rv.mono t2 _ _ r1) r2) fun _ _ z => PoE.tr (t1.trans t2) z)
/-- a bool comes -/
def BQ (Q : Bool → Mp → Prop) : VQ := fun w M => ∃ k, w = .bl k ∧ Q k M
theorem PoE.bq {K H} {Q : Bool → Mp → Prop} {x H1} (h : PoE K H (BQ Q) x H1) : ∃ k, x = .bl k ∧ PoB K H Q k H1 := by
  obtain ⟨w, M', t, m, r, k, rfl, q⟩ := h
  cases r
  exact ⟨k, rfl, M', t, m, q⟩
variable {B : Bool → Mp → Prop}
theorem wt_cmp {op} (h : WE X a σ M fun x M1 => WE X b σ M1 fun y M2 => O2 X (compareOp op) x y M2 (BQ B)) (hm : behindInMarks op b = false := by first | exact nomark _ | rfl | with_unfolding_all rfl) : WT X (.Compare a [op] [b] pos) σ M B := fun σ' H s m =>
  wT.of (pt_cmpR wOp.op wE.pe wE.pe hm) (h.run s m fun v H1 x M1 t1 m1 r1 s1 q1 => q1.run s1 m1 fun u H2 y M2 t2 m2 r2 s2 q2 => wOp.mono (q2 H2 v u m2 (Rv.mono t2 _ _ r1) r2) fun _ _ z => (PoE.tr (t1.trans t2) z).bq)
theorem we_chain {op op'} (h : WE X a σ M fun x M1 => WE X b σ M1 fun y M2 => O2 X (compareOp op) x y M2 (BQ fun k M3 => if k = true then WE X c σ M3 fun z M4 => O2 X (compareOp op') y z M4 Q else Q (.bl false) M3))
    (hm : lastMarks [op, op'] [b, c] = false := by with_unfolding_all rfl) : WE X (.Compare a [op, op'] [b, c] pos) σ M Q := fun σ' H s m =>
  wE.of (pe_chain wOp.op wOp.op wE.pe wE.pe wE.pe hm) (h.run s m fun v H1 x M1 t1 m1 r1 s1 q1 => q1.run s1 m1 fun u H2 y M2 t2 m2 r2 s2 q2 => wOp.mono (q2 H2 v u m2 (Rv.mono t2 _ _ r1) r2) fun z H3 e => by
    obtain ⟨k, rfl, M3, t3, m3, q3⟩ := e.bq
    refine ⟨k, rfl, ?_⟩
    cases k with
    | false => exact iteF ⟨.bl false, M3, (t1.trans t2).trans t3, m3, .bl false, by simpa using q3⟩
    | true =>
      refine iteT ?_
      rw [if_pos rfl] at q3
      exact q3.run (s2.mono t3) m3 fun u' H4 y' M4 t4 m4 r4 s4 q4 => wOp.mono (q4 H4 u u' m4 (Rv.mono (t3.trans t4) _ _ r2) r4) fun _ _ z => PoE.tr (((t1.trans t2).trans t3).trans t4) z)
theorem wt_chain {op op'} (h : WE X a σ M fun x M1 => WE X b σ M1 fun y M2 => O2 X (compareOp op) x y M2 (BQ fun k M3 => if k = true then WE X c σ M3 fun z M4 => O2 X (compareOp op') y z M4 (BQ B) else B false M3))
    (hm : lastMarks [op, op'] [b, c] = false := by with_unfolding_all rfl) : WT X (.Compare a [op, op'] [b, c] pos) σ M B := fun σ' H s m =>
  wT.of (pt_chain wOp.op wOp.op wE.pe wE.pe wE.pe hm) (h.run s m fun v H1 x M1 t1 m1 r1 s1 q1 => q1.run s1 m1 fun u H2 y M2 t2 m2 r2 s2 q2 => wOp.mono (q2 H2 v u m2 (Rv.mono t2 _ _ r1) r2) fun z H3 e => by
    obtain ⟨k, rfl, M3, t3, m3, q3⟩ := e.bq
    refine ⟨k, rfl, ?_⟩
    cases k with
    | false => exact iteF ⟨false, rfl, M3, (t1.trans t2).trans t3, m3, by simpa using q3⟩
    | true =>
      refine iteT ?_
      rw [if_pos rfl] at q3
      exact q3.run (s2.mono t3) m3 fun u' H4 y' M4 t4 m4 r4 s4 q4 => wOp.mono (q4 H4 u u' m4 (Rv.mono (t3.trans t4) _ _ r2) r4) fun _ _ z => (PoE.tr (((t1.trans t2).trans t3).trans t4) z).bq)
/-- truth -/
inductive Tr (M : Mp) : VV → Bool → Prop
  | non : Tr M .non false
  | bl (b : Bool) : Tr M (.bl b) b
  | int (i : Int) : Tr M (.int i) (i != 0)
  | str (x : Str) : x.length ≤ sizeLine → Tr M (.str x) ((x.length : Int) != 0)
  | lst {a ws} : M a = some (.lst ws) → Tr M (.ref a) (!ws.isEmpty)
  | seq (ws : List VV) : Tr M (.seq ws) (!ws.isEmpty)
  | tup (ws : List VV) : Tr M (.tup ws) (!ws.isEmpty)
  | dK {a kvs} : M a = some (.dK kvs) → Tr M (.ref a) (!kvs.isEmpty)
theorem Rvs.empty {K : PySem.W.Frag} {H : Hp} {vs ws} (h : Rvs K H vs ws) : vs.isEmpty = ws.isEmpty := by cases h <;> rfl
theorem Rkv.empty {K : PySem.W.Frag} {H : Hp} {κ : Type} {vs : List (κ × V)} {ws} (h : Rkv K H vs ws) : vs.isEmpty = ws.isEmpty := by cases h <;> rfl
theorem Tr.v {K : PySem.W.Frag} {H : Hp} {w : VV} {v : V} {k : Bool} (h : Tr M w k) (m : SimM K M H) (r : Rv K H v w) : TruV K v H k := by
  cases h with
  | non => cases r; exact rfl
  | bl b => cases r; exact rfl
  | int b => cases r; exact rfl
  | str b hl => cases r; exact ⟨hl, rfl⟩
  | lst e => cases r; obtain ⟨vs, h1, h2⟩ := m _ _ e; exact .inl ⟨vs, SqL.of h1, by rw [h2.empty]⟩
  | seq ws => cases r with | seq h1 h2 => exact .inl ⟨_, h1.sql, by rw [h2.empty]⟩
  | tup ws => cases r with | tup h1 h2 => exact .inr (.inl ⟨_, h1, by rw [h2.empty]⟩)
  | dK e => cases r; obtain ⟨vs, h1, h2⟩ := m _ _ e; exact .inr (.inr ⟨vs, h1, by rw [h2.empty]⟩)
theorem wt_truth (h : WE X a σ M fun x M1 => ∃ k, Tr M1 x k ∧ B k M1) (he : ∀ whole, isTrue a X.env whole = (do let v ← whole; standAt a.pos; holding [v] (truthy v)) := by intro _; rfl) : WT X a σ M B := fun σ' H s m =>
  wT.of (pt_truth wE.pe he) (h.run s m fun v H1 x M1 t1 m1 r1 s1 ⟨k, tr, q⟩ => ⟨k, tr.v m1 r1, M1, t1, m1, q⟩)
theorem wt_w (h : WW X e σ M B) : WT X e σ M B := fun σ' H s m pins st I => h σ' H s m _ pins st I
theorem ww_and1 (h : WT X a σ M B) : WW X (.BoolOp .And [a] pos) σ M B := fun σ' H s m => wW.of (pw_and1 wT.pt) (h σ' H s m)
theorem ww_or1 (h : WT X a σ M B) : WW X (.BoolOp .Or [a] pos) σ M B := fun σ' H s m => wW.of (pw_or1 wT.pt) (h σ' H s m)
theorem ww_and {r} (h : WT X a σ M fun k M1 => if k = true then WW X (.BoolOp .And (b :: r) pos) σ M1 B else B false M1) : WW X (.BoolOp .And (a :: b :: r) pos) σ M B := fun σ' H s m =>
  wW.of (pw_and wT.pt wW.pw) (h.run s m fun k H1 M1 t1 m1 s1 q1 => by
    cases k with
    | true => rw [if_pos rfl] at q1 ⊢; exact (q1 σ' H1 s1 m1).mono fun _ _ z => PoB.tr t1 z
    | false => exact ⟨M1, t1, m1, by simpa using q1⟩)
theorem ww_or {r} (h : WT X a σ M fun k M1 => if k = true then B true M1 else WW X (.BoolOp .Or (b :: r) pos) σ M1 B) : WW X (.BoolOp .Or (a :: b :: r) pos) σ M B := fun σ' H s m =>
  wW.of (pw_or wT.pt wW.pw) (h.run s m fun k H1 M1 t1 m1 s1 q1 => by
    cases k with
    | false => rw [if_neg Bool.false_ne_true] at q1 ⊢; exact (q1 σ' H1 s1 m1).mono fun _ _ z => PoB.tr t1 z
    | true => exact ⟨M1, t1, m1, by simpa using q1⟩)
theorem wt_not (h : WT X a σ M fun k M1 => B (!k) M1) : WT X (.UnaryOp .Not a pos) σ M B := fun σ' H s m =>
  wT.of (pt_not wT.pt) (h.run s m fun k H1 M1 t1 m1 s1 q1 => ⟨M1, t1, m1, q1⟩)
theorem we_one {op} (h : WE X a σ M Q) : WE X (.BoolOp op [a] pos) σ M Q := fun σ' H s m => wE.of (pe_one wE.pe) (h σ' H s m)
theorem we_and {r} (h : WE X a σ M (BQ fun k M1 => if k = true then WE X (.BoolOp .And (b :: r) pos) σ M1 Q else Q (.bl false) M1)) : WE X (.BoolOp .And (a :: b :: r) pos) σ M Q := fun σ' H s m =>
  wE.of (pe_and wE.pe wE.pe) (h.run s m fun v H1 x M1 t1 m1 r1 s1 ⟨k, hk, q1⟩ => by
    subst hk; cases r1
    refine ⟨k, rfl, ?_⟩
    cases k with
    | true => rw [if_pos rfl] at q1 ⊢; exact (q1 σ' H1 s1 m1).mono fun _ _ z => PoE.tr t1 z
    | false => exact ⟨_, M1, t1, m1, .bl false, by simpa using q1⟩)
theorem we_or {r} (h : WE X a σ M (BQ fun k M1 => if k = true then Q (.bl true) M1 else WE X (.BoolOp .Or (b :: r) pos) σ M1 Q)) : WE X (.BoolOp .Or (a :: b :: r) pos) σ M Q := fun σ' H s m =>
  wE.of (pe_or wE.pe wE.pe) (h.run s m fun v H1 x M1 t1 m1 r1 s1 ⟨k, hk, q1⟩ => by
    subst hk; cases r1
    refine ⟨k, rfl, ?_⟩
    cases k with
    | false => rw [if_neg Bool.false_ne_true] at q1 ⊢; exact (q1 σ' H1 s1 m1).mono fun _ _ z => PoE.tr t1 z
    | true => exact ⟨_, M1, t1, m1, .bl true, by simpa using q1⟩)
theorem we_not (h : WE X a σ M (BQ fun k M1 => Q (.bl (!k)) M1)) : WE X (.UnaryOp .Not a pos) σ M Q := fun σ' H s m =>
  wE.of (pe_not wE.pe) (h.run s m fun v H1 x M1 t1 m1 r1 s1 ⟨k, hk, q1⟩ => by
    subst hk; cases r1
    exact ⟨k, rfl, _, M1, t1, m1, .bl _, q1⟩)
theorem we_if (h : WT X c σ M fun k M1 => if k = true then WE X a σ M1 Q else WE X b σ M1 Q) : WE X (.IfExp c a b pos) σ M Q := fun σ' H s m =>
  wE.of (pe_ifExp wT.pt wE.pe wE.pe) (h.run s m fun k H1 M1 t1 m1 s1 q1 => by
    cases k with
    | true => rw [if_pos rfl] at q1 ⊢; exact (q1 σ' H1 s1 m1).mono fun _ _ z => PoE.tr t1 z
    | false => rw [if_neg Bool.false_ne_true] at q1 ⊢; exact (q1 σ' H1 s1 m1).mono fun _ _ z => PoE.tr t1 z)
/-! ### argument lists, displays -/
variable {A : List VV → Mp → Prop}
theorem wa_nil (q : A [] M) : WA X [] σ M A := fun σ' H s m => wA.of pa_nil ⟨[], M, TM.refl, m, .nil, q⟩
theorem wa_cons (h : WE X e σ M fun x M1 => WA X es σ M1 fun xs M2 => A (x :: xs) M2) (hs : starEach (e :: es) X.env = (false, eval e X.env) :: starEach es X.env := by rfl) : WA X (e :: es) σ M A := fun σ' H s m =>
  wA.of (pa_cons wE.pe wA.pa hs) (h.run s m fun v H1 x M1 t1 m1 r1 s1 q1 => q1.run s1 m1 fun vs H2 xs M2 t2 m2 r2 s2 q2 => ⟨x :: xs, M2, t1.trans t2, m2, .cons (Rv.mono t2 _ _ r1) r2, q2⟩)
theorem we_tup {x1} (h : WA X es σ M fun xs M1 => xs.length ≤ sizeLine ∧ Q (.tup xs) M1) : WE X (.Tuple es x1 pos) σ M Q := fun σ' H s m =>
  wE.of (pe_tup wA.pa) (h.run s m fun v H1 x M1 t1 m1 r1 s1 ⟨hl, q1⟩ => ⟨by rw [r1.length]; exact hl, fun p hp => ⟨.tup x, M1, t1.trans (TM.fresh hp), m1.alloc hp, .tup (SqT.of upd_same) (Rvs.mono (TM.fresh hp) _ _ r1), q1⟩⟩)
theorem we_lst (h : WA X es σ M fun xs M1 => xs.length ≤ sizeLine ∧ ∀ p, M1 p = none → Q (.ref p) (updM M1 p (.lst xs))) : WE X (.List es pos) σ M Q := fun σ' H s m =>
  wE.of (pe_lst wA.pa) (h.run s m fun v H1 x M1 t1 m1 r1 s1 ⟨hl, q1⟩ => ⟨by rw [r1.length]; exact hl, fun p hp => ⟨.ref p, _, t1.trans (TM.fresh hp), m1.putL (TM.fresh hp) (.inl hp) r1, .ref p, q1 p (m1.no hp)⟩⟩)
theorem we_ix (h : WE X a σ M fun x M1 => WE X b σ M1 fun y M2 => OI X x y M2 Q) (hs : PlainIx b := by exact fun _ _ => rfl) : WE X (.Subscript a b pos) σ M Q := fun σ' H s m =>
  wE.of (pe_ix wIx.ix wE.pe wE.pe hs) (h.run s m fun v H1 x M1 t1 m1 r1 s1 q1 => q1.run s1 m1 fun u H2 y M2 t2 m2 r2 s2 q2 => wIx.mono (q2 H2 v u m2 (Rv.mono t2 _ _ r1) r2) fun _ _ z => PoE.tr (t1.trans t2) z)
end
end G3

set_option Elab.async false
set_option linter.all false
set_option maxRecDepth 100000
set_option maxHeartbeats 4000000
/-! L3: operations, calls, statements, loops, defs -/
namespace G3
open PySem PySem.Spec L2

/-- a list's items, by content or in the heap -/
inductive Lst (M : Mp) : VV → List VV → Prop
  | ref {a ws} : M a = some (.lst ws) → Lst M (.ref a) ws
  | seq (ws) : Lst M (.seq ws) ws
theorem Lst.v {K : PySem.W.Frag} {M : Mp} {H : Hp} {v : V} {w : VV} {ws : List VV} (h : Lst M w ws) (m : SimM K M H) (r : Rv K H v w) : ∃ a vs, v = .ref a ∧ SqL K H a vs ∧ Rvs K H vs ws := by
  cases h with
  | ref e => cases r; obtain ⟨vs, h1, h2⟩ := m _ _ e; exact ⟨_, vs, rfl, SqL.of h1, h2⟩
  | seq => cases r with | seq h1 h2 => exact ⟨_, _, rfl, h1.sql, h2⟩
theorem Rv.tupv {K : PySem.W.Frag} {H : Hp} {v : V} {ws : List VV} (r : Rv K H v (.tup ws)) : ∃ a vs, v = .ref a ∧ SqT K H a vs ∧ Rvs K H vs ws := by
  cases r with | tup h1 h2 => exact ⟨_, _, rfl, h1, h2⟩
/-- the x-th name -/
inductive At : List Str → Nat → Str → Prop
  | here {a l} : At (a :: l) 0 a
  | there {a b l n} : At l n a → At (b :: l) (n + 1) a
theorem At.get {l n a} (h : At l n a) : l[n]? = some a := by
  induction h with
  | here => rfl
  | there _ ih => simpa using ih

/-- what is known of a body's context -/
structure Bd (P : Program) (w : World) (K : PySem.W.Frag) (mg : Str → Option Value) (base : Heap) (CX : CXT) (N : List Str) (sc : Scope) (fl : Bool) (k : Nat) (X : Cx) : Prop where
  eprog : X.prog = P
  ew : X.w = w
  eK : X.K = K
  emg : X.mg = mg
  ebase : X.base = base
  eN : X.N = N
  esc : X.env.scope = sc
  calm : X.calm = true
  room : Room k X.A
  pas : ∀ Y : Cx, Y.prog = P → Y.w = w → Passes CX Y E0
  own : PassesOwn (model X.prog X.w) X.A X.env X.xe
  nd : N.Nodup
  fn : fl = true → ∀ x, X.fn x = true

section
variable {X : Cx} {M : Mp} {Q : VQ}
/-! ### ints -/
theorem o2_add {i j} (q : Q (.int (i + j)) M) : O2 X (binaryOp .Add) (.int i) (.int j) M Q := fun H v u m r1 r2 => by
  cases r1; cases r2; exact wOp.of op_add ⟨i, j, rfl, rfl, .mk m (.int _) q⟩
theorem o2_sub {i j} (q : Q (.int (i - j)) M) : O2 X (binaryOp .Sub) (.int i) (.int j) M Q := fun H v u m r1 r2 => by
  cases r1; cases r2; exact wOp.of op_sub ⟨i, j, rfl, rfl, .mk m (.int _) q⟩
theorem o2_mul {i j} (c : CMul i j ∨ CMulW i j) (q : Q (.int (i * j)) M) : O2 X (binaryOp .Mult) (.int i) (.int j) M Q := fun H v u m r1 r2 => by
  cases r1; cases r2
  rcases c with c | c
  · exact wOp.of op_mul ⟨i, j, rfl, rfl, c, .mk m (.int _) q⟩
  · exact wOp.of op_mulW ⟨i, j, rfl, rfl, c, .mk m (.int _) q⟩
/-- // by a divisor of either sign below 2 ^ 9000 -/
def CDivV (_ j : Int) : Prop := j ≠ 0 ∧ j.natAbs.log2 < 9000
theorem op_fdivV : OpR X (binaryOp .FloorDiv) (rI CDivV fun i j => .int (i.fdiv j)) := opI fun i j _ _ _ _ _ hc q =>
  PyProof.Rows.floordiv_int hc.1 q (.inl (PyProof.noPylong_of_log2 hc.2))
theorem o2_fdiv {i j} (c : CDivV i j) (q : Q (.int (i.fdiv j)) M) : O2 X (binaryOp .FloorDiv) (.int i) (.int j) M Q := fun H v u m r1 r2 => by
  cases r1; cases r2; exact wOp.of op_fdivV ⟨i, j, rfl, rfl, c, .mk m (.int _) q⟩
theorem o2_div {i j} (h : 0 < j) (c : j < 1073741824) (q : Q (.int (i / j)) M) : O2 X (binaryOp .FloorDiv) (.int i) (.int j) M Q := fun H v u m r1 r2 => by
  cases r1; cases r2; exact wOp.of op_fdiv ⟨i, j, rfl, rfl, ⟨h, c⟩, .mk m (.int _) q⟩
theorem o2_mod {i j} (c : 0 < j) (q : Q (.int (i % j)) M) : O2 X (binaryOp .Mod) (.int i) (.int j) M Q := fun H v u m r1 r2 => by
  cases r1; cases r2; exact wOp.of op_mod ⟨i, j, rfl, rfl, c, .mk m (.int _) q⟩
theorem o2_pow {i j} (c : CPow i j) (q : Q (.int (i ^ j.toNat)) M) : O2 X (binaryOp .Pow) (.int i) (.int j) M Q := fun H v u m r1 r2 => by
  cases r1; cases r2; exact wOp.of op_pow ⟨i, j, rfl, rfl, c, .mk m (.int _) q⟩
theorem o1_neg {i} (q : Q (.int (-i)) M) : O1 X (unaryOp .USub) (.int i) M Q := fun H v m r1 => by
  cases r1; exact wUn.of un_neg ⟨i, rfl, .mk m (.int _) q⟩
theorem o2_lt {i j} (q : Q (.bl (decide (i < j))) M) : O2 X (compareOp .Lt) (.int i) (.int j) M Q := fun H v u m r1 r2 => by
  cases r1; cases r2; exact wOp.of op_lt ⟨i, j, rfl, rfl, .mk m (.bl _) q⟩
theorem o2_le {i j} (q : Q (.bl (decide (i ≤ j))) M) : O2 X (compareOp .LtE) (.int i) (.int j) M Q := fun H v u m r1 r2 => by
  cases r1; cases r2; exact wOp.of op_le ⟨i, j, rfl, rfl, .mk m (.bl _) q⟩
theorem o2_gt {i j} (q : Q (.bl (decide (j < i))) M) : O2 X (compareOp .Gt) (.int i) (.int j) M Q := fun H v u m r1 r2 => by
  cases r1; cases r2; exact wOp.of op_gt ⟨i, j, rfl, rfl, .mk m (.bl _) q⟩
theorem o2_ge {i j} (q : Q (.bl (decide (j ≤ i))) M) : O2 X (compareOp .GtE) (.int i) (.int j) M Q := fun H v u m r1 r2 => by
  cases r1; cases r2; exact wOp.of op_ge ⟨i, j, rfl, rfl, .mk m (.bl _) q⟩
theorem o2_eqi {i j : Int} (q : Q (.bl (decide (i = j))) M) : O2 X (compareOp .Eq) (.int i) (.int j) M Q := fun H v u m r1 r2 => by
  cases r1; cases r2
  exact wOp.of op_eq ⟨rfl, .mk m (.bl _) (by simpa using q)⟩
theorem o2_nei {i j : Int} (q : Q (.bl (!decide (i = j))) M) : O2 X (compareOp .NotEq) (.int i) (.int j) M Q := fun H v u m r1 r2 => by
  cases r1; cases r2
  exact wOp.of op_ne ⟨rfl, .mk m (.bl _) (by simpa using q)⟩
theorem o2_eqb {i j : Bool} (q : Q (.bl (decide (i = j))) M) : O2 X (compareOp .Eq) (.bl i) (.bl j) M Q := fun H v u m r1 r2 => by
  cases r1; cases r2
  exact wOp.of op_eq ⟨rfl, .mk m (.bl _) (by simpa using q)⟩
theorem o2_neb {i j : Bool} (q : Q (.bl (!decide (i = j))) M) : O2 X (compareOp .NotEq) (.bl i) (.bl j) M Q := fun H v u m r1 r2 => by
  cases r1; cases r2
  exact wOp.of op_ne ⟨rfl, .mk m (.bl _) (by simpa using q)⟩
theorem o2_eqs {i j : Str} (q : Q (.bl (decide (i = j))) M) : O2 X (compareOp .Eq) (.str i) (.str j) M Q := fun H v u m r1 r2 => by
  cases r1; cases r2
  exact wOp.of op_eq ⟨rfl, .mk m (.bl _) (by simpa using q)⟩
theorem o2_nes {i j : Str} (q : Q (.bl (!decide (i = j))) M) : O2 X (compareOp .NotEq) (.str i) (.str j) M Q := fun H v u m r1 r2 => by
  cases r1; cases r2
  exact wOp.of op_ne ⟨rfl, .mk m (.bl _) (by simpa using q)⟩
def isNon : VV → Bool
  | .non => true
  | _ => false
theorem Rv.isNon {K : PySem.W.Frag} {H : Hp} {v w} (r : Rv K H v w) : decide (v = V.non) = isNon w := by
  cases r <;> simp [G3.isNon]
theorem o2_isN {x} (q : Q (.bl (isNon x)) M) : O2 X (compareOp .Is) x .non M Q := fun H v u m r1 r2 => by
  cases r2
  exact wOp.of op_isN ⟨rfl, .mk m (.bl _) (by rw [r1.isNon]; exact q)⟩
theorem o2_notN {x} (q : Q (.bl (!isNon x)) M) : O2 X (compareOp .IsNot) x .non M Q := fun H v u m r1 r2 => by
  cases r2
  exact wOp.of op_notN ⟨rfl, .mk m (.bl _) (by rw [r1.isNon]; exact q)⟩

/-! ### == of data -/
mutual
inductive DW (M : Mp) : VV → PyData → Prop
  | non : DW M .non .none
  | bl (b : Bool) : DW M (.bl b) (.bool b)
  | int (i : Int) : DW M (.int i) (.int i)
  | str (x : Str) : DW M (.str x) (.str x)
  | lst {w ws ds} : Lst M w ws → DWs M ws ds → DW M w (.list ds)
  | tup {ws ds} : DWs M ws ds → DW M (.tup ws) (.tuple ds)
  | ftp {ws ds} : DWs M ws ds → DW M (.ftp ws) (.tuple ds)
inductive DWs (M : Mp) : List VV → List PyData → Prop
  | nil : DWs M [] []
  | cons {v : VV} {vs : List VV} {d : PyData} {ds : List PyData} : DW M v d → DWs M vs ds → DWs M (v :: vs) (d :: ds)
end
mutual
theorem DW.dp {K : PySem.W.Frag} {M : Mp} {H : Hp} (m : SimM K M H) : ∀ (d : PyData) (w : VV) (v : V), DW M w d → Rv K H v w → Dp K H v d
  | .none, _, _, h, r => by cases h; cases r; exact .non
  | .bool b, _, _, h, r => by cases h; cases r; exact .bl b
  | .int b, _, _, h, r => by cases h; cases r; exact .int b
  | .str b, _, _, h, r => by cases h; cases r; exact .str b
  | .list ds, _, _, h, r => by
    cases h with
    | lst hl hs =>
      obtain ⟨a, vs, rfl, h1, h2⟩ := hl.v m r
      exact .lst h1 (DWs.dp m ds _ _ hs h2)
  | .tuple ds, _, _, h, r => by
    cases h with
    | tup hs =>
      obtain ⟨a, vs, rfl, h1, h2⟩ := r.tupv
      exact .tup h1 (DWs.dp m ds _ _ hs h2)
    | ftp hs =>
      cases r with
      | ftp h1 h2 => exact .tup (SqT.of h1) (DWs.dp m ds _ _ hs h2)
  | .dict _, _, _, h, _ => by cases h
theorem DWs.dp {K : PySem.W.Frag} {M : Mp} {H : Hp} (m : SimM K M H) : ∀ (ds : List PyData) (ws : List VV) (vs : List V), DWs M ws ds → Rvs K H vs ws → DpAll K H vs ds
  | [], _, _, h, r => by cases h; cases r; exact .nil
  | d :: ds, _, _, h, r => by
    cases h with
    | cons h1 h2 => cases r with | cons r1 r2 => exact .cons (DW.dp m d _ _ h1 r1) (DWs.dp m ds _ _ h2 r2)
end
theorem o2_eqD {x y d e} (hu : X.A.units + 64 < cLine) (h1 : DW M x d) (h2 : DW M y e) (s1 : SeqAt.shaped d = true) (s2 : SeqAt.shaped e = true) (q : Q (.bl (PyData.eqv d e)) M) : O2 X (compareOp .Eq) x y M Q := fun H v u m r1 r2 =>
  wOp.of (op_eqD hu) ⟨d, e, h1.dp m _ _ _ r1, h2.dp m _ _ _ r2, s1, s2, .mk m (.bl _) q⟩
theorem o2_neD {x y d e} (hu : X.A.units + 64 < cLine) (h1 : DW M x d) (h2 : DW M y e) (s1 : SeqAt.shaped d = true) (s2 : SeqAt.shaped e = true) (q : Q (.bl (!PyData.eqv d e)) M) : O2 X (compareOp .NotEq) x y M Q := fun H v u m r1 r2 =>
  wOp.of (op_neD hu) ⟨d, e, h1.dp m _ _ _ r1, h2.dp m _ _ _ r2, s1, s2, .mk m (.bl _) q⟩

/-! ### calls of what is built in -/
theorem oc_abs {i : Int} (q : Q (.int i.natAbs) M) : OC X (.builtin "abs") [.int i] M Q := fun H vs m r => by
  cases r with | cons r1 r2 => cases r1; cases r2; exact wCall.of call_abs ⟨i, rfl, .mk m (.int _) (by
    have : (if i < 0 then -i else i) = (i.natAbs : Int) := by split <;> omega
    rw [this]; exact q)⟩
theorem oc_len {w ws} (h : Lst M w ws) (q : Q (.int ws.length) M) : OC X (.builtin "len") [w] M Q := fun H vs m r => by
  cases r with
  | cons r1 r2 =>
    cases r2
    obtain ⟨a, vs, rfl, h1, h2⟩ := h.v m r1
    exact wCall.of call_len_seq ⟨a, vs, rfl, .inl h1, .mk m (.int _) (by rw [h2.length]; exact q)⟩
theorem oc_lenT {ws} (q : Q (.int ws.length) M) : OC X (.builtin "len") [.tup ws] M Q := fun H vs m r => by
  cases r with
  | cons r1 r2 =>
    cases r2
    obtain ⟨a, vs, rfl, h1, h2⟩ := r1.tupv
    exact wCall.of call_len_seq ⟨a, vs, rfl, .inr h1, .mk m (.int _) (by rw [h2.length]; exact q)⟩
theorem oc_list {w ws} (h : Lst M w ws) (q : ∀ p, M p = none → Q (.ref p) (updM M p (.lst ws))) : OC X (.type "list") [w] M Q := fun H vs m r => by
  cases r with
  | cons r1 r2 =>
    cases r2
    obtain ⟨a, vs, rfl, h1, h2⟩ := h.v m r1
    exact wCall.of call_list_of ⟨a, vs, rfl, .inl h1, fun l hl => ⟨.ref l, _, TM.fresh hl, m.putL (TM.fresh hl) (.inl hl) h2, .ref l, q l (m.no hl)⟩⟩
theorem oc_listT {ws} (q : ∀ p, M p = none → Q (.ref p) (updM M p (.lst ws))) : OC X (.type "list") [.tup ws] M Q := fun H vs m r => by
  cases r with
  | cons r1 r2 =>
    cases r2
    obtain ⟨a, vs, rfl, h1, h2⟩ := r1.tupv
    exact wCall.of call_list_of ⟨a, vs, rfl, .inr h1, fun l hl => ⟨.ref l, _, TM.fresh hl, m.putL (TM.fresh hl) (.inl hl) h2, .ref l, q l (m.no hl)⟩⟩
theorem oc_tuple {w ws} (h : Lst M w ws) (q : Q (.tup ws) M) : OC X (.type "tuple") [w] M Q := fun H vs m r => by
  cases r with
  | cons r1 r2 =>
    cases r2
    obtain ⟨a, vs, rfl, h1, h2⟩ := h.v m r1
    exact wCall.of call_tuple_of ⟨a, vs, rfl, .inl ⟨h1, fun l hl => ⟨.tup ws, M, TM.fresh hl, m.alloc hl, .tup (SqT.of upd_same) (Rvs.mono (TM.fresh hl) _ _ h2), q⟩⟩⟩
theorem oc_int {i} (q : Q (.int i) M) : OC X (.type "int") [.int i] M Q := fun H vs m r => by
  cases r with | cons r1 r2 => cases r1; cases r2; exact wCall.of call_int1 (.inl ⟨i, rfl, .mk m (.int _) q⟩)
theorem oc_intb {k : Bool} (q : Q (.int (if k then 1 else 0)) M) : OC X (.type "int") [.bl k] M Q := fun H vs m r => by
  cases r with | cons r1 r2 => cases r1; cases r2; exact wCall.of call_int1 (.inr ⟨k, rfl, .mk m (.int _) q⟩)
theorem oc_max2 (hc : X.calm = true) {i j : Int} (q : Q (.int (if j > i then j else i)) M) : OC X (.builtin "max") [.int i, .int j] M Q := fun H vs m r => by
  cases r with | cons r1 r2 => cases r2 with | cons r3 r4 => cases r1; cases r3; cases r4; exact wCall.of (call_max2 hc) ⟨i, j, rfl, .mk m (.int _) q⟩
theorem oc_min2 (hc : X.calm = true) {i j : Int} (q : Q (.int (if j < i then j else i)) M) : OC X (.builtin "min") [.int i, .int j] M Q := fun H vs m r => by
  cases r with | cons r1 r2 => cases r2 with | cons r3 r4 => cases r1; cases r3; cases r4; exact wCall.of (call_min2 hc) ⟨i, j, rfl, .mk m (.int _) q⟩
theorem oc_all (hc : X.calm = true) {w} {bs : List Bool} (h : Lst M w (bs.map .bl)) (q : Q (.bl (bs.all id)) M) : OC X (.builtin "all") [w] M Q := fun H vs m r => by
  cases r with
  | cons r1 r2 =>
    cases r2
    obtain ⟨a, vs, rfl, h1, h2⟩ := h.v m r1
    rw [h2.bls] at h1
    exact wCall.of (cr_all hc) ⟨a, bs, rfl, h1, .mk m (.bl _) q⟩
theorem oc_any (hc : X.calm = true) {w} {bs : List Bool} (h : Lst M w (bs.map .bl)) (q : Q (.bl (bs.any id)) M) : OC X (.builtin "any") [w] M Q := fun H vs m r => by
  cases r with
  | cons r1 r2 =>
    cases r2
    obtain ⟨a, vs, rfl, h1, h2⟩ := h.v m r1
    rw [h2.bls] at h1
    exact wCall.of (cr_any hc) ⟨a, bs, rfl, h1, .mk m (.bl _) q⟩
/-- isinstance: by the type's name -/
inductive TyW (M : Mp) : VV → String → Prop
  | non : TyW M .non "NoneType"
  | bl (b) : TyW M (.bl b) "bool"
  | int (i) : TyW M (.int i) "int"
  | str (x) : TyW M (.str x) "str"
  | lst {a ws} : M a = some (.lst ws) → TyW M (.ref a) "list"
  | dK {a ws} : M a = some (.dK ws) → TyW M (.ref a) "dict"
  | dT {a ws} : M a = some (.dT ws) → TyW M (.ref a) "dict"
  | tup (ws) : TyW M (.tup ws) "tuple"
  | seq (ws) : TyW M (.seq ws) "list"
  | ftp (ws) : TyW M (.ftp ws) "tuple"
theorem TyW.x {K : PySem.W.Frag} {H : Hp} {w T v} (h : TyW M w T) (m : SimM K M H) (r : Rv K H v w) : TyX K H v (.type T) := by
  cases h with
  | non => cases r; exact .base .non
  | bl => cases r; exact .base (.bl _)
  | int => cases r; exact .base (.int _)
  | str => cases r; exact .base (.str _)
  | lst e => cases r; obtain ⟨vs, h1, h2⟩ := m _ _ e; exact .base (.lst h1)
  | dK e => cases r; obtain ⟨vs, h1, h2⟩ := m _ _ e; exact .base (.dK h1)
  | dT e => cases r; obtain ⟨vs, h1, h2⟩ := m _ _ e; exact .base (.dT h1)
  | tup =>
    obtain ⟨a, vs, rfl, h1, h2⟩ := r.tupv
    rcases h1 with (h1 | ⟨o, h1⟩) | ⟨o, its, n, h1, hc, _⟩
    · exact .base (.tup h1)
    · exact .fTuple h1
    · exact .kTuple h1 hc
  | ftp =>
    cases r with
    | ftp h1 h2 => exact .base (.tup h1)
  | seq =>
    cases r with
    | seq h1 h2 =>
      rcases h1 with ⟨o, h1⟩ | ⟨o, its, n, h1, hc, _⟩
      · exact .base (.frz h1)
      · exact .kList h1 hc
theorem oc_isi {w T n} {b : Bool} (h : TyW M w T) (e : kitB T n = some b) (q : Q (.bl b) M) : OC X (.builtin "isinstance") [w, .ty n] M Q := fun H vs m r => by
  cases r with
  | cons r1 r2 =>
    cases r2 with
    | cons r3 r4 =>
      cases r3; cases r4
      exact wCall.of call_isi ⟨_, _, _, _, b, rfl, .ty n, h.x m r1, kit_ty e, .mk m (.bl _) q⟩
/-- of two types -/
theorem oc_isi2 {w T n n'} {b b' : Bool} (h : TyW M w T) (e : kitB T n = some b) (e' : kitB T n' = some b') (q : Q (.bl (b || b')) M) : OC X (.builtin "isinstance") [w, .tup [.ty n, .ty n']] M Q := fun H vs m r => by
  cases r with
  | cons r1 r2 =>
    cases r2 with
    | cons r3 r4 =>
      cases r4
      cases r3 with
      | @tup p us _ h1 h2 =>
      cases h2 with | cons a1 h2 => cases h2 with | cons a2 h2 =>
      cases a1; cases a2; cases h2
      have ka : PySem.W.kitAny X.K (.type T) [.type n, .type n'] = some (b || b') := by
        refine kitAny_cons (kit_ty e) (fun hb => ?_) (fun hb => by rw [hb]; rfl)
        subst hb
        rw [Bool.false_or]
        refine kitAny_cons (kit_ty e') (fun hb => ?_) (fun hb => hb)
        subst hb; rfl
      rcases h1 with (h1 | ⟨o, h1⟩) | ⟨o, its, nn, h1, hc, hd, hs, hv⟩
      · exact wCall.of call_isiT ⟨_, p, _, _, _, _, rfl, h1, .cons (.ty n) (.cons (.ty n') .nil), h.x m r1, ka, .mk m (.bl _) q⟩
      · exact fun pins s σ us I rr => by
          obtain ⟨u1, u2, rfl, r1', r2'⟩ := vals2 rr
          cases (show u2 = Value.ref p from r2')
          obtain ⟨P, Z, pp, hx⟩ := kit_of I r1' (h.x m r1)
          obtain ⟨_, _, its, rv, o', h1', h2', n0, h3'⟩ := (show ObjOk X.prog X.w H s.heap p (.frz o (.tup [.ty n, .ty n'])) from I.hok p _ h1)
          have e3 := ClsV.all (.cons (.ty n) (.cons (.ty n') .nil)) rv
          subst e3
          obtain ⟨oc, od, dt, sl⟩ := o'
          simp only at h2' h3'
          subst h2' h3'
          exact PySem.W.kia_tup Z I.kIn pp h1' ka hx fun tk => ⟨.bl _, H, I.tok tk, rfl, .mk m (.bl _) q⟩
      · obtain ⟨oc, od, dt, sl⟩ := o
        simp only at hc hd
        subst hc hd
        have e3 := ClsV.all (.cons (.ty n) (.cons (.ty n') .nil)) hv
        have e4 : its = [Value.type n, Value.type n'].toArray := by rw [← e3]
        subst e4
        exact wCall.of call_isiK ⟨_, p, _, _, _, _, _, _, rfl, h1, h.x m r1, ka, .mk m (.bl _) q⟩

/-! ### subscripts -/
theorem atI_get3 {K : PySem.W.Frag} {H : Hp} {vs : List V} {ws : List VV} {i : Int} {w : VV} (r : Rvs K H vs ws) (h : atI ws i = some w) : ∃ v, atI vs i = some v ∧ Rv K H v w := by
  unfold atI at h ⊢
  rw [r.length]
  cases e : ixN ws.length i with
  | none => rw [e] at h; cases h
  | some j =>
    rw [e] at h
    exact r.get (i := j) h
theorem oi_lst {x ws i w} (h : Lst M x ws) (e : atI ws i = some w) (q : Q w M) : OI X x (.int i) M Q := fun H v u m r1 r2 => by
  cases r2
  obtain ⟨a, vs, rfl, h1, h2⟩ := h.v m r1
  obtain ⟨v, e', rv⟩ := atI_get3 h2 e
  exact wIx.of ix_list ⟨a, vs, i, v, rfl, rfl, h1, e', .mk m rv q⟩
theorem oi_tup {ws i w} (e : atI ws i = some w) (q : Q w M) : OI X (.tup ws) (.int i) M Q := fun H v u m r1 r2 => by
  cases r2
  obtain ⟨a, vs, rfl, h1, h2⟩ := r1.tupv
  obtain ⟨v, e', rv⟩ := atI_get3 h2 e
  exact wIx.of ix_tup ⟨a, vs, i, v, rfl, rfl, h1, e', .mk m rv q⟩
theorem oset_lst {a ws k j y} {Q : Mp → Prop} (h : M a = some (.lst ws)) (e : ixN ws.length k = some j) (q : Q (updM M a (.lst (ws.set j y)))) : OSet X (.ref a) (.int k) y M Q := fun H v1 v2 v3 m r1 r2 r3 => by
  cases r1; cases r2
  obtain ⟨vs, h1, h2⟩ := m _ _ h
  exact wSet.of set_list ⟨a, vs, k, j, rfl, rfl, h1, by rw [h2.length]; exact e, _, TM.lst h1, m.putL (TM.lst h1) (.inr ⟨_, h⟩) (h2.set j r3), q⟩
end

/-! ### names, calls, by what is known of the context -/
section
variable {P : Program} {w : World} {K : PySem.W.Frag} {mg : Str → Option Value} {base : Heap} {CX : CXT} {N : List Str} {sc : Scope} {fl : Bool} {k : Nat} {X : Cx}
variable {a b c e : Expr} {es : List Expr} {σ : St3} {M : Mp} {Q : VQ} {D : En} {pos : Pos} {x : Str} {i : Nat}
def VisK (sc : Scope) (x : Str) : Prop := sc.names.lookup x = some .local ∨ sc.names.lookup x = some .cell ∨ sc.names.lookup x = some .free
theorem we_nm (B : Bd P w K mg base CX N sc fl k X) {u : VV} (hi : At N i x) (hv : VisK sc x) (hs : σ[i]? = some (some u)) (q : Q u M) (hd : (x == ("__debug__" : Str)) = false := by decide) (hcd : (x == ("__classdict__" : Str)) = false := by decide) : WE X (.Name x pos) σ M Q :=
  we_name i (by rw [B.eN]; exact hi.get) (by rw [B.esc]; exact hv) hs q hd hcd
/-- a def's promise by values -/
abbrev Sp3 := List VV → Mp → VQ → Prop
def toSp (K : PySem.W.Frag) (sp : Sp3) : Sp := fun vs H Q _ => ∃ ws M Q3, SimM K M H ∧ Rvs K H vs ws ∧ sp ws M Q3 ∧ ∀ u M' v H', Q3 u M' → TM H H' → SimM K M' H' → Rv K H' v u → Q v H'
/-- the def x stands and keeps sp -/
def Df (P : Program) (w : World) (K : PySem.W.Frag) (mg : Str → Option Value) (base : Heap) (CX : CXT) (k : Nat) (x : Str) (ps : List Str) (sp : Sp3) : Prop :=
  ∃ f fd, mg x = some (.ref f) ∧ PySem.W.keepIn K (.ref f) = true ∧ (∀ (s : Shared) (us : List Value), us.length = ps.length → BindsTo s fd ⟨us, []⟩ (ps.zip us)) ∧ FnOk P w K mg base CX k f fd ps (toSp K sp) ∧ ∃ oc od osl, K.lookup f = some ⟨oc, od, .func fd, osl⟩
theorem Df.imp {k' : Nat} {ps : List Str} {sp sp' : Sp3} (D : Df P w K mg base CX k' x ps sp) (h : ∀ ws M Q, sp' ws M Q → sp ws M Q) : Df P w K mg base CX k' x ps sp' :=
  let ⟨f, fd, h1, h2, h3, h4, h5⟩ := D; ⟨f, fd, h1, h2, h3, h4.imp fun _ _ _ _ ⟨ws, M, Q3, a, b, c, d⟩ => ⟨ws, M, Q3, a, b, h _ _ _ c, d⟩, h5⟩
theorem we_call {k' : Nat} {ps : List Str} {sp : Sp3} {p : Pos} (B : Bd P w K mg base CX N sc fl k X) (F : Df P w K mg base CX k' x ps sp) (hk : k' ≤ k) (hg : sc.names.lookup x = some .globalImplicit)
    (h : WA X (e :: es) σ M fun ws M1 => sp ws M1 Q) (hdb : (x == ("__debug__" : Str)) = false := by decide) (he : starEach (e :: es) X.env = (false, eval e X.env) :: starEach es X.env := by rfl) (hpl : (backTo pos (starEach es X.env)).any (·.1) = false := by rfl) :
    WE X (.Call (.Name x p) (e :: es) [] pos) σ M Q := by
  obtain ⟨rfl, rfl, rfl, rfl, rfl, rfl, rfl, _, room, pas, _⟩ := B
  obtain ⟨f, fd, hmg, hkp, hb0, hf, _⟩ := F
  have hb : Binds X.K fd ps [] := fun s us _ hl => by rw [List.append_nil] at hl ⊢; exact hb0 s us hl
  exact fun σ' H s m => wE.of (pe_call hf (room.mono hk) hg hmg hkp hb .nil (pas X rfl rfl) wA.pa hdb he hpl)
    (h.run s m fun vs H1 ws M1 t1 m1 r1 s1 q1 => ⟨ws, M1, Q, m1, by rw [List.append_nil]; exact r1, q1, fun u M' v H' q t2 m2 r2 => ⟨u, M', t1.trans t2, m2, r2, q⟩⟩)
end
end G3

set_option Elab.async false
set_option linter.all false
set_option maxRecDepth 100000
set_option maxHeartbeats 4000000
/-! L3: statements, loops, comprehensions, defs -/
namespace G3
open PySem PySem.Spec L2
theorem wS.mono {X : Cx} {e σ H} {D D' : Ends} (h : wS X e D σ H) (k1 : ∀ v H, D.nx v H → D'.nx v H) (k2 : ∀ v H, D.rt v H → D'.rt v H) (k3 : ∀ v H, D.bk v H → D'.bk v H) (k4 : ∀ v H, D.ct v H → D'.ct v H) : wS X e D' σ H := fun pins s I => thn (h pins s I) fun _ _ z => SP.mono z k1 k2 k3 k4
theorem wGs.mono {X : Cx} {e v σ H} {Q Q' : St → Hp → Prop} (h : wGs X e v σ H Q) (k : ∀ v H, Q v H → Q' v H) : wGs X e v σ H Q' := fun pins s u I r1 => thn (h pins s u I r1) fun _ _ ⟨a, b, c, d⟩ => ⟨a, b, c, k _ _ d⟩
section
variable {X : Cx} {a b c e tg : Expr} {es : List Expr} {st : Stmt} {rest : List Stmt} {σ : St3} {M : Mp} {Q : VQ} {D : En} {pos : Pos} {x : Str} {i : Nat}
/-- a block run behind heap H -/
theorem WSs.at {sts : List Stmt} (h : WSs X sts σ M D) {σ' : St} {H H1 : Hp} (t : TM H H1) (s : Slots X.K H1 σ' σ) (m : SimM X.K M H1) : wSs X sts (PoD X.K H D) σ' H1 :=
  (h σ' H1 s m).mono (fun _ _ z => PoS.tr t z) (fun _ _ z => PoR.tr t z) (fun _ _ z => PoS.tr t z) fun _ _ z => PoS.tr t z
theorem WG.at {u : VV} {R : St3 → Mp → Prop} (h : WG X tg u σ M R) {σ' : St} {H H1 : Hp} {v : V} (t : TM H H1) (s : Slots X.K H1 σ' σ) (m : SimM X.K M H1) (r : Rv X.K H1 v u) : wG X tg v σ' H1 (PoS X.K H R) :=
  (h σ' H1 v s m r).mono fun _ _ z => PoS.tr t z
theorem wss_nil (q : D.nx σ M) : WSs X [] σ M D := fun σ' H s m => wSs.of pss_nil ⟨σ, M, TM.refl, s, m, q⟩
theorem wss_cons (h : WS X st σ M { D with nx := fun σ1 M1 => WSs X rest σ1 M1 D }) : WSs X (st :: rest) σ M D := fun σ' H s m =>
  wSs.of (pss_cons wS.ps wSs.pss) (show wS X st _ σ' H from (h σ' H s m).mono (fun σ1 H1 ⟨σ2, M2, t2, s2, m2, q⟩ => q.at t2 s2 m2) (fun _ _ z => z) (fun _ _ z => z) fun _ _ z => z)
/-- the rest is met from P alone -/
theorem wss_cut (P : St3 → Mp → Prop) (h : WS X st σ M { D with nx := P }) (k : ∀ σ M, P σ M → WSs X rest σ M D) : WSs X (st :: rest) σ M D := wss_cons fun σ' H s m =>
  (h σ' H s m).mono (fun _ _ ⟨a, b, c, d, e, f⟩ => ⟨a, b, c, d, e, k _ _ f⟩) (fun _ _ z => z) (fun _ _ z => z) fun _ _ z => z
theorem ws_pass (q : D.nx σ M) : WS X (.Pass pos) σ M D := fun σ' H s m => wS.of ps_pass ⟨σ, M, TM.refl, s, m, q⟩
theorem ws_break (q : D.bk σ M) : WS X (.Break pos) σ M D := fun σ' H s m => wS.of ps_break ⟨σ, M, TM.refl, s, m, q⟩
theorem ws_continue (q : D.ct σ M) : WS X (.Continue pos) σ M D := fun σ' H s m => wS.of ps_continue ⟨σ, M, TM.refl, s, m, q⟩
theorem ws_expr (h : WE X e σ M fun _ M1 => D.nx σ M1) (hs : swapsWith e none pos.line X.env = pure false := by rfl) : WS X (.Expr e pos) σ M D := fun σ' H s m =>
  wS.of (ps_expr wE.pe hs) (h.run s m fun v H1 x M1 t1 m1 r1 s1 q => ⟨σ, M1, t1, s1, m1, q⟩)
theorem ws_ret (h : WE X e σ M D.rt) : WS X (.Return (some e) pos) σ M D := fun σ' H s m =>
  wS.of (ps_ret wE.pe) (h.run s m fun v H1 x M1 t1 m1 r1 s1 q => ⟨x, M1, t1, m1, r1, q⟩)
theorem ws_retN (h : D.rt .non M) : WS X (.Return none pos) σ M D := fun σ' H s m => wS.of ps_retN ⟨.non, M, TM.refl, m, .non, h⟩
theorem ws_if {a b : List Stmt} (h : WT X c σ M fun k M1 => if k = true then WSs X a σ M1 D else WSs X b σ M1 D) : WS X (.If c a b pos) σ M D := fun σ' H s m =>
  wS.of (ps_if wT.pt wSs.pss wSs.pss) (h.run s m fun k H1 M1 t1 m1 s1 q1 => by
    cases k with
    | true => rw [if_pos rfl] at q1 ⊢; exact q1.at t1 s1 m1
    | false => rw [if_neg Bool.false_ne_true] at q1 ⊢; exact q1.at t1 s1 m1)
theorem ws_asg (h : WE X e σ M fun u M1 => WG X tg u σ M1 D.nx) (hs : swapsWithSole [tg] e pos.line X.env = pure false := by rfl) (hw : swappedStores [tg] e X.env = pure none := by rfl)
    (h1 : (assignEach [tg] X.env).map (·.2) = [assign tg X.env] := by rfl) : WS X (.Assign [tg] e pos) σ M D := fun σ' H s m =>
  wS.of (ps_asg wE.pe wG.pg hs hw h1) (h.run s m fun v H1 x M1 t1 m1 r1 s1 q => q.at t1 s1 m1 r1)
variable {P : Program} {w : World} {K : PySem.W.Frag} {mg : Str → Option Value} {base : Heap} {CX : CXT} {N : List Str} {sc : Scope} {fl : Bool} {k : Nat}
def LocK (sc : Scope) (x : Str) : Prop := sc.names.lookup x = some .local ∨ sc.names.lookup x = some .cell
theorem Bd.hf (B : Bd P w K mg base CX N sc fl k X) (hf : fl = true ∨ sc.names.lookup x = some .local) : X.fn x = true ∨ X.env.scope.names.lookup x = some .local := by
  rcases hf with hf | hf
  · exact .inl (B.fn hf x)
  · exact .inr (by rw [B.esc]; exact hf)
theorem ws_set (B : Bd P w K mg base CX N sc fl k X) {pos' : Pos} (hi : At N i x) (hx : LocK sc x) (h : WE X e σ M fun u M1 => D.nx (σ.set i (some u)) M1) (hf : fl = true ∨ sc.names.lookup x = some .local := by first | exact .inl rfl | exact .inr rfl)
    (hs : swapsWith e (some (.Name x pos')) pos.line X.env = pure false := by rfl) : WS X (.Assign [.Name x pos'] e pos) σ M D := fun σ' H s m =>
  wS.of (ps_set (i := i) (by rw [B.eN]; exact B.nd) (by rw [B.eN]; exact hi.get) (by rw [B.esc]; exact hx) wE.pe hs (B.hf hf)) (h.run s m fun v H1 u M1 t1 m1 r1 s1 q => ⟨_, M1, t1, s1.set i r1, m1, q⟩)
/-! targets -/
theorem wg_name (B : Bd P w K mg base CX N sc fl k X) {u : VV} {R : St3 → Mp → Prop} (hi : At N i x) (hx : LocK sc x) (q : R (σ.set i (some u)) M) (hf : fl = true ∨ sc.names.lookup x = some .local := by first | exact .inl rfl | exact .inr rfl) : WG X (.Name x pos) u σ M R := fun σ' H v s m r =>
  wG.of (pg_name (i := i) (by rw [B.eN]; exact B.nd) (by rw [B.eN]; exact hi.get) (by rw [B.esc]; exact hx) (B.hf hf)) ⟨_, M, TM.refl, s.set i r, m, q⟩
theorem wgs_nil {R : St3 → Mp → Prop} (q : R σ M) : WGs X [] [] σ M R := fun σ' H vs s m r => by
  cases r; exact wGs.of pgs_nil ⟨rfl, σ, M, TM.refl, s, m, q⟩
/-- targets that change no tracked object: names and tuples of names -/
theorem wgs_cons {R : St3 → Mp → Prop} {u : VV} {us : List VV} (B : Bd P w K mg base CX N sc fl k X) {pos : Pos} (hi : At N i x) (hx : LocK sc x) (q : WGs X es us (σ.set i (some u)) M R) (hf : fl = true ∨ sc.names.lookup x = some .local := by first | exact .inl rfl | exact .inr rfl)
    (hs : (assignEach (.Name x pos :: es) X.env).map (·.2) = assign (.Name x pos) X.env :: (assignEach es X.env).map (·.2) := by rfl) : WGs X (.Name x pos :: es) (u :: us) σ M R := fun σ' H vs s m r => by
  cases r with
  | cons r1 r2 =>
    exact wGs.of (pgs_cons (pg_name (i := i) (by rw [B.eN]; exact B.nd) (by rw [B.eN]; exact hi.get) (by rw [B.esc]; exact hx) (B.hf hf)) wGs.pgs hs) ⟨_, _, rfl, q _ H _ (s.set i r1) m r2⟩
theorem wg_tup (B : Bd P w K mg base CX N sc fl k X) {R : St3 → Mp → Prop} {us : List VV} {kk : Nat} (q : WGs X es us σ M R) (hn : (assignEach es X.env).length = us.length := by rfl) (hst : (assignEach es X.env).findIdx? (·.1) = none := by rfl) : WG X (.Tuple es kk pos) (.tup us) σ M R := fun σ' H v s m r => by
  obtain ⟨a, vs, rfl, h1, h2⟩ := r.tupv
  exact wG.of (pg_tup B.calm wGs.pgs rfl hst) ⟨a, vs, rfl, h1, by rw [h2.length]; exact hn.symm, q σ' H vs s m h2⟩
theorem wg_sub {R : St3 → Mp → Prop} {u : VV} (h : WE X a σ M fun o M1 => WE X b σ M1 fun ix M2 => OSet X o ix u M2 fun M3 => R σ M3)
    (ha : ∀ v, assign (.Subscript a b pos) X.env v = (do
      let ov ← holding [v] (eval a X.env)
      let iv ← holding [v, ov] (eval b X.env)
      standAt pos
      holding [v, ov, iv] (setItem ov iv v)
      release [v, ov, iv] []) := by intro _; rfl) : WG X (.Subscript a b pos) u σ M R := fun σ' H v s m r =>
  wG.of (pg_sub wE.pe wE.pe wSet.ps ha) (h.run s m fun o H1 x1 M1 t1 m1 r1 s1 q1 => q1.run s1 m1 fun y H2 x2 M2 t2 m2 r2 s2 q2 =>
    wSet.mono (q2 H2 o y v m2 (Rv.mono t2 _ _ r1) r2 (Rv.mono (t1.trans t2) _ _ r)) fun H3 ⟨M3, t3, m3, q3⟩ => ⟨σ, M3, (t1.trans t2).trans t3, s2.mono t3, m3, q3⟩)
/-- x, y = a, b of local names -/
theorem ws_par (B : Bd P w K mg base CX N sc fl k X) {j : Nat} {y : Str} {px py pt : Pos} {kt k2 pt2} (hi : At N i x) (hj : At N j y) (hij : i ≠ j) (hx : sc.names.lookup x = some .local) (hy : sc.names.lookup y = some .local)
    (h : WA X [a, b] σ M fun us M1 => ∃ u v, us = [u, v] ∧ D.nx ((σ.set i (some u)).set j (some v)) M1)
    (hw : X.env.scope = sc → swappedStores [.Tuple [.Name x px, .Name y py] kt pt] (.Tuple [a, b] k2 pt2) X.env = pure (some [x, y]))
    (hs : swapsWithSole [.Tuple [.Name x px, .Name y py] kt pt] (.Tuple [a, b] k2 pt2) pos.line X.env = pure false := by rfl) :
    WS X (.Assign [.Tuple [.Name x px, .Name y py] kt pt] (.Tuple [a, b] k2 pt2) pos) σ M D := fun σ' H s m =>
  wS.of (ps_par (i := i) (j := j) B.calm (by rw [B.eN]; exact B.nd) (by rw [B.eN]; exact hi.get) (by rw [B.eN]; exact hj.get) hij (by rw [B.esc]; exact hx) (by rw [B.esc]; exact hy) wA.pa (hw B.esc) hs)
    (h.run s m fun vs H1 us M1 t1 m1 r1 s1 ⟨u, v, e, q⟩ => by
      subst e
      cases r1 with | cons r1 r2 => cases r2 with | cons r2 r3 => cases r3; exact ⟨_, _, rfl, _, M1, t1, (s1.set i r1).set j r2, m1, q⟩)
/-! loops -/
theorem ws_while (B : Bd P w K mg base CX N sc fl k X) {body : List Stmt} (W : Nat → St3 → Mp → Prop) (m0 : Nat) (h0 : W m0 σ M)
    (hs : ∀ n σ M, W n σ M → WT X c σ M fun k M1 => if k = true then WSs X body σ M1 { nx := fun σ' M' => ∃ n', n' < n ∧ W n' σ' M', ct := fun σ' M' => ∃ n', n' < n ∧ W n' σ' M', bk := D.nx, rt := D.rt } else D.nx σ M1) : WS X (.While c body [] pos) σ M D := fun σ' H s m =>
  wS.of (ps_while B.own wT.pt wSs.pss) ⟨fun n => PoS X.K H (W n), ⟨m0, σ, M, TM.refl, s, m, h0⟩, fun n σ1 H1 ⟨σ2, M2, t2, s2, m2, w2⟩ => (hs n σ2 M2 w2).run s2 m2 fun kk H3 M3 t3 m3 s3 q3 => by
    cases kk with
    | true =>
      rw [if_pos rfl] at q3 ⊢
      refine ⟨PoS X.K H fun σ' M' => ∃ n', n' < n ∧ W n' σ' M', fun σ4 H4 ⟨σ5, M5, t5, s5, m5, n', l, w5⟩ => ⟨n', l, σ5, M5, t5, s5, m5, w5⟩, q3.at (t2.trans t3) s3 m3⟩
    | false => rw [if_neg Bool.false_ne_true] at q3 ⊢; exact ⟨σ2, M3, t2.trans t3, s3, m3, q3⟩⟩
/-- the turns of a loop over n items -/
def Turns (X : Cx) (tg : Expr) (body : List Stmt) (D : En) (n : Nat) (it : Nat → VV → Prop) (hold : Mp → Prop) (σ : St3) (M : Mp) : Prop := ∃ Pv : Nat → St3 → Mp → Prop, Pv 0 σ M ∧ (∀ i σ M, i ≤ n → Pv i σ M → hold M) ∧
  (∀ i u σ M, i < n → it i u → Pv i σ M → WG X tg u σ M fun σ2 M2 => WSs X body σ2 M2 { nx := Pv (i + 1), ct := Pv (i + 1), bk := D.nx, rt := D.rt }) ∧ ∀ σ M, Pv n σ M → D.nx σ M
theorem ws_forRange1 (B : Bd P w K mg base CX N sc fl k X) {p pos' : Pos} {body : List Stmt} (hg : sc.names.lookup ("range" : Str) = some .globalImplicit) (hm : mg "range" = none)
    (h : WA X [a] σ M fun us M1 => ∃ j : Int, us = [.int j] ∧ (-(2 ^ 62) ≤ j ∧ j < 2 ^ 62) ∧ Turns X tg body D j.toNat (fun i u => u = .int i) (fun _ => True) σ M1)
    (hsp : starEach [a] X.env = [(false, eval a X.env)] := by rfl) (hs : ∀ x, foldedSetIterable (.Call (.Name "range" p) [a] [] pos') X.env x = pure x := by intro _; rfl) : WS X (.For tg (.Call (.Name "range" p) [a] [] pos') body [] pos) σ M D := fun σ' H s m =>
  wS.of (ps_for B.own B.calm (pi_range1 (by show X.env.scope.names.lookup _ = _; rw [B.esc]; exact hg) (by rw [B.emg]; exact hm) wA.pa hsp) wG.pg wSs.pss hs)
    (h.run s m fun vs H1 us M1 t1 m1 r1 s1 ⟨j, e, ⟨l1, l2⟩, Pv, p0, _, ps, pe⟩ => by
      subst e
      cases r1 with | cons r1 r2 =>
      cases r1; cases r2
      refine ⟨j, rfl, l1, l2, for_range (fun i => PoS X.K H (Pv i)) ⟨σ, M1, t1, s1, m1, p0⟩ (fun i σ2 H2 hi ⟨σ3, M3, t3, s3, m3, p3⟩ => ?_) fun σ2 H2 ⟨σ3, M3, t3, s3, m3, p3⟩ => ⟨σ3, M3, t3, s3, m3, pe _ _ p3⟩⟩
      exact ((ps i (.int i) σ3 M3 hi rfl p3).at t3 s3 m3 (by rw [Int.zero_add]; exact .int _)).mono fun σ4 H4 ⟨σ5, M5, t5, s5, m5, q5⟩ => q5.at t5 s5 m5)
theorem ws_forRange2 (B : Bd P w K mg base CX N sc fl k X) {p pos' : Pos} {body : List Stmt} (hg : sc.names.lookup ("range" : Str) = some .globalImplicit) (hm : mg "range" = none)
    (h : WA X [a, b] σ M fun us M1 => ∃ i j : Int, us = [.int i, .int j] ∧ (-(2 ^ 62) ≤ i ∧ i < 2 ^ 62 ∧ -(2 ^ 62) ≤ j ∧ j < 2 ^ 62) ∧ Turns X tg body D (j - i).toNat (fun n u => u = .int (i + n)) (fun _ => True) σ M1)
    (hsp : starEach [a, b] X.env = [(false, eval a X.env), (false, eval b X.env)] := by rfl) (hsp2 : starEach [b] X.env = [(false, eval b X.env)] := by rfl) (hs : ∀ x, foldedSetIterable (.Call (.Name "range" p) [a, b] [] pos') X.env x = pure x := by intro _; rfl) : WS X (.For tg (.Call (.Name "range" p) [a, b] [] pos') body [] pos) σ M D := fun σ' H s m =>
  wS.of (ps_for B.own B.calm (pi_range2 (by show X.env.scope.names.lookup _ = _; rw [B.esc]; exact hg) (by rw [B.emg]; exact hm) wA.pa hsp hsp2) wG.pg wSs.pss hs)
    (h.run s m fun vs H1 us M1 t1 m1 r1 s1 ⟨i, j, e, l, Pv, p0, _, ps, pe⟩ => by
      subst e
      cases r1 with | cons r1 r2 => cases r2 with | cons r2 r3 =>
      cases r1; cases r2; cases r3
      refine ⟨i, j, rfl, l, for_range (fun i => PoS X.K H (Pv i)) ⟨σ, M1, t1, s1, m1, p0⟩ (fun i' σ2 H2 hi ⟨σ3, M3, t3, s3, m3, p3⟩ => ?_) fun σ2 H2 ⟨σ3, M3, t3, s3, m3, p3⟩ => ⟨σ3, M3, t3, s3, m3, pe _ _ p3⟩⟩
      exact ((ps i' (.int (i + i')) σ3 M3 hi rfl p3).at t3 s3 m3 (.int _)).mono fun σ4 H4 ⟨σ5, M5, t5, s5, m5, q5⟩ => q5.at t5 s5 m5)
theorem ws_forLst (B : Bd P w K mg base CX N sc fl k X) {body : List Stmt} (h : WE X e σ M fun u M1 => ∃ ws, Lst M1 u ws ∧ Turns X tg body D ws.length (fun i v => ws[i]? = some v) (fun M => Lst M u ws) σ M1)
    (hs : ∀ x, foldedSetIterable e X.env x = pure x := by intro _; rfl) : WS X (.For tg e body [] pos) σ M D := fun σ' H s m =>
  wS.of (ps_for B.own B.calm (pi_list wE.pe) wG.pg wSs.pss hs)
    (h.run s m fun v H1 u M1 t1 m1 r1 s1 ⟨ws, hl, Pv, p0, ph, ps, pe⟩ => by
      obtain ⟨a, vs, rfl, h1, h2⟩ := hl.v m1 r1
      have stays : ∀ {H2 M2}, SimM X.K M2 H2 → Lst M2 u ws → TM H1 H2 → ∃ vs, SqL X.K H2 a vs ∧ Rvs X.K H2 vs ws := fun {H2 M2} m2 hl2 t => by
        obtain ⟨a', vs', e', q1, q2⟩ := hl2.v m2 (Rv.mono t _ _ r1)
        cases e'
        exact ⟨vs', q1, q2⟩
      refine ⟨a, rfl, ⟨vs, h1⟩, fun i n σ2 H2 => n = ws.length - i ∧ i ≤ ws.length ∧ PoS X.K H1 (Pv i) σ2 H2, ⟨_, rfl, Nat.zero_le _, σ, M1, TM.refl, s1, m1, p0⟩, ?_⟩
      rintro i n σ2 H2 ⟨rfl, hi, σ3, M3, t3, s3, m3, p3⟩
      obtain ⟨vs, hv, rv⟩ := stays m3 (ph i σ3 M3 hi p3) t3
      have hlen := rv.length
      by_cases hlt : i < ws.length
      · obtain ⟨x, hx, rx⟩ := rv.get (i := i) (w := ws[i]) (by simp [hlt])
        refine .inr ⟨⟨vs, x, hv, hx⟩, PoS X.K H1 (Pv (i + 1)), fun σ' H' z => ⟨_, by omega, rfl, hlt, z⟩, fun y H' hy => ?_⟩
        obtain ⟨rfl, hy⟩ := hy
        have ey := hy vs hv
        rw [hx] at ey
        cases ey
        exact ((ps i _ σ3 M3 hlt (by simp [hlt]) p3).at t3 s3 m3 rx).mono fun σ4 H4 ⟨σ5, M5, t5, s5, m5, q5⟩ => (q5.at t5 s5 m5).mono (fun _ _ z => z) (fun _ _ z => PoR.tr t1 z) (fun _ _ z => PoS.tr t1 z) (fun _ _ z => z)
      · refine .inl ⟨⟨vs, hv, by omega⟩, σ3, M3, t1.trans t3, s3, m3, pe σ3 M3 ?_⟩
        have : i = ws.length := by omega
        subst this; exact p3)
theorem ws_forTup (B : Bd P w K mg base CX N sc fl k X) {body : List Stmt} (h : WE X e σ M fun u M1 => ∃ ws, u = .tup ws ∧ Turns X tg body D ws.length (fun i v => ws[i]? = some v) (fun M => True) σ M1)
    (hs : ∀ x, foldedSetIterable e X.env x = pure x := by intro _; rfl) : WS X (.For tg e body [] pos) σ M D := fun σ' H s m =>
  wS.of (ps_for B.own B.calm (pi_tup wE.pe) wG.pg wSs.pss hs)
    (h.run s m fun v H1 u M1 t1 m1 r1 s1 ⟨ws, hl, Pv, p0, ph, ps, pe⟩ => by
      subst hl
      obtain ⟨a, vs, rfl, h1, h2⟩ := r1.tupv
      refine ⟨a, rfl, ⟨vs, h1⟩, for_tup (xs := vs) (fun i => PoS X.K H1 (Pv i)) ⟨σ, M1, TM.refl, s1, m1, p0⟩ (fun i σ H _ ⟨_, _, t, _⟩ => SqT.mono t h1) (fun i y σ2 H2 hy ⟨σ3, M3, t3, s3, m3, p3⟩ => ?_)
        fun σ2 H2 ⟨σ3, M3, t3, s3, m3, p3⟩ => ⟨σ3, M3, t1.trans t3, s3, m3, pe _ _ (by rw [← h2.length]; exact p3)⟩⟩
      obtain ⟨z, hz, rz⟩ := h2.get' hy
      have hlt := (List.getElem?_eq_some_iff.mp hz).1
      exact ((ps i z σ3 M3 hlt hz p3).at t3 s3 m3 (Rv.mono t3 _ _ rz)).mono fun σ4 H4 ⟨σ5, M5, t5, s5, m5, q5⟩ => (q5.at t5 s5 m5).mono (fun _ _ z => z) (fun _ _ z => PoR.tr t1 z) (fun _ _ z => PoS.tr t1 z) (fun _ _ z => z))
end
end G3

set_option Elab.async false
set_option linter.all false
set_option maxRecDepth 100000
set_option maxHeartbeats 4000000
/-! L3: comprehensions, methods, slices, defs -/
namespace G3
open PySem PySem.Spec L2
section
variable {X : Cx} {a b c e tg : Expr} {es : List Expr} {st : Stmt} {rest : List Stmt} {σ : St3} {M : Mp} {Q : VQ} {D : En} {pos : Pos} {x : Str} {i : Nat}
variable {P : Program} {w : World} {K : PySem.W.Frag} {mg : Str → Option Value} {base : Heap} {CX : CXT} {N : List Str} {sc : Scope} {fl : Bool} {k : Nat}
/-! ### built-in functions and methods by name -/
theorem we_callB {id : String} {p : Pos} (B : Bd P w K mg base CX N sc fl k X) (hg : sc.names.lookup x = some .globalImplicit) (hm : mg x = none) (hv : bootBuiltins x = some (.builtin id)) (h : WA X (e :: es) σ M fun us M1 => OC X (.builtin id) us M1 Q) (hn : x ≠ "__name__" := by decide) (hdb : (x == ("__debug__" : Str)) = false := by decide)
    (he : starEach (e :: es) X.env = (false, eval e X.env) :: starEach es X.env := by rfl) (hpl : (backTo pos (starEach es X.env)).any (·.1) = false := by rfl) : WE X (.Call (.Name x p) (e :: es) [] pos) σ M Q := fun σ' H s m =>
  wE.of (pe_callB wCall.cr (by show X.env.scope.names.lookup _ = _; rw [B.esc]; exact hg) (by rw [B.emg]; exact hm) hv wA.pa hn hdb he hpl) (h.run s m fun vs H1 us M1 t1 m1 r1 s1 q1 => wCall.mono (q1 H1 vs m1 r1) fun _ _ z => PoE.tr t1 z)
theorem we_callTy {id : String} {p : Pos} (B : Bd P w K mg base CX N sc fl k X) (hg : sc.names.lookup x = some .globalImplicit) (hm : mg x = none) (hv : bootBuiltins x = some (.type id)) (h : WA X (e :: es) σ M fun us M1 => OC X (.type id) us M1 Q) (hn : x ≠ "__name__" := by decide) (hdb : (x == ("__debug__" : Str)) = false := by decide)
    (he : starEach (e :: es) X.env = (false, eval e X.env) :: starEach es X.env := by rfl) (hpl : (backTo pos (starEach es X.env)).any (·.1) = false := by rfl) : WE X (.Call (.Name x p) (e :: es) [] pos) σ M Q := fun σ' H s m =>
  wE.of (pe_callTy wCall.cr (by show X.env.scope.names.lookup _ = _; rw [B.esc]; exact hg) (by rw [B.emg]; exact hm) hv wA.pa hn hdb he hpl) (h.run s m fun vs H1 us M1 t1 m1 r1 s1 q1 => wCall.mono (q1 H1 vs m1 r1) fun _ _ z => PoE.tr t1 z)
theorem we_tyn {n : String} (B : Bd P w K mg base CX N sc fl k X) (hg : sc.names.lookup x = some .globalImplicit) (hm : mg x = none) (hv : bootBuiltins x = some (.type n)) (q : Q (.ty n) M) (hn : x ≠ "__name__" := by decide) (hd : (x == ("__debug__" : Str)) = false := by decide) : WE X (.Name x pos) σ M Q :=
  we_ty (by show X.env.scope.names.lookup _ = _; rw [B.esc]; exact hg) (by rw [B.emg]; exact hm) hv q hn hd
/-- a value of the module's, as it stands in the fragment -/
theorem we_gl {v : V} {u : Value} {z : VV} (B : Bd P w K mg base CX N sc fl k X) (hg : sc.names.lookup x = some .globalImplicit) (hm : mg x = some u) (r : RelV v u) (rw : ∀ H, Rv K H v z) (q : Q z M) (hd : (x == ("__debug__" : Str)) = false := by decide) : WE X (.Name x pos) σ M Q :=
  we_glob (by show X.env.scope.names.lookup _ = _; rw [B.esc]; exact hg) (by rw [B.emg]; exact hm) r (by rw [B.eK]; exact rw) q hd
theorem we_glr {ad : Addr} {z : VV} (B : Bd P w K mg base CX N sc fl k X) (hg : sc.names.lookup x = some .globalImplicit) (hm : mg x = some (.ref ad)) (rw : ∀ H, Rv K H (.ref ad) z) (q : Q z M) (hd : (x == ("__debug__" : Str)) = false := by decide) : WE X (.Name x pos) σ M Q :=
  we_gl (v := .ref ad) B hg hm rfl rw q hd
theorem ws_append {apos cpos : Pos} (h : WE X a σ M fun l M1 => ∃ p ws0, l = .ref p ∧ M1 p = some (.lst ws0) ∧ WE X b σ M1 fun y M2 => ∃ ws, M2 p = some (.lst ws) ∧ ws.length < sizeLine ∧ D.nx σ (updM M2 p (.lst (ws ++ [y]))))
    (hs : swapsWith (.Call (.Attribute a "append" apos) [b] [] cpos) none pos.line X.env = pure false := by rfl)
    (hbase : attributeBase a "append" X.env (eval a X.env) = eval a X.env := by rfl)
    (hfew : ((backTo cpos (starEach [b] X.env)).all (fun x => !x.1) && (backToKw cpos (keywordEach [] X.env)).all (fun x => x.1.isSome)
      && decide (([b] : List Expr).length + ([] : List Keyword).length + (if ([] : List Keyword).isEmpty then 0 else 1) < 30)) = true := by rfl)
    (hline : (apos.endLine == cpos.line) = true := by rfl) (hst : starEach [b] X.env = (false, eval b X.env) :: starEach [] X.env := by rfl) (hplain : (backTo cpos (starEach [] X.env)).any (·.1) = false := by rfl) :
    WS X (.Expr (.Call (.Attribute a "append" apos) [b] [] cpos) pos) σ M D := fun σ' H s m =>
  wS.of (ps_expr (pe_bm (e := b) (es := []) PySem.F.plainAttrs_list PySem.F.slot_list_append PySem.F.type_list_append mt_append wE.pe (pa_cons wE.pe pa_nil hst) hbase hfew hline hst hplain) hs)
    (h.run s m fun v H1 l M1 t1 m1 r1 s1 ⟨p, ws0, e1, e2, q1⟩ => by
      subst e1; cases r1
      obtain ⟨vs0, h0, _⟩ := m1 _ _ e2
      exact ⟨.inl ⟨rfl, vs0, SqL.of h0⟩, q1.run s1 m1 fun u H2 y M2 t2 m2 r2 s2 ⟨ws, e3, hl, q⟩ => by
          obtain ⟨vs, h1, h2⟩ := m2 _ _ e3
          exact ⟨p, vs, u, rfl, rfl, h1, by rw [h2.length]; exact hl, σ, _, (t1.trans t2).trans (TM.lst h1), s2.mono (TM.lst h1), m2.putL (TM.lst h1) (.inr ⟨_, e3⟩) (h2.append (.cons r2 .nil)), q⟩⟩)
/-! ### slices -/
def WO (X : Cx) (o : Option Expr) (σ : St3) (M : Mp) (R : Option Int → Mp → Prop) : Prop := match o with
  | none => R none M
  | some e => WE X e σ M fun u M1 => ∃ i, u = .int i ∧ R (some i) M1
def cutW (ws : List VV) (lo hi : Option Int) : List VV := (ws.drop (HT.sIx ws.length 0 lo)).take (HT.sIx ws.length ws.length hi - HT.sIx ws.length 0 lo)
theorem we_slice {lo hi : Option Expr} {p2 : Pos} (h : WE X e σ M fun u M1 => WO X lo σ M1 fun l M2 => WO X hi σ M2 fun r M3 => ∃ ws, Lst M3 u ws ∧ ∀ p, M3 p = none → Q (.ref p) (updM M3 p (.lst (cutW ws l r)))) : WE X (.Subscript e (.Slice lo hi none p2) pos) σ M Q := fun σ' H s m => by
  have po : ∀ (o : Option Expr), ∃ t : TO, PO X o t ∧ ∀ {σ' : St} {H : Hp} {M : Mp} {R : Option Int → Mp → Prop} {Z : Option Int → Hp → Prop}, Slots X.K H σ' σ → SimM X.K M H → WO X o σ M R → (∀ i H1 M1, TM H H1 → SimM X.K M1 H1 → Slots X.K H1 σ' σ → R i M1 → Z i H1) → t σ' H Z := fun o => by
    cases o with
    | none => exact ⟨tNoPart, po_none, fun s m h z => z _ _ _ TM.refl m s h⟩
    | some e => exact ⟨_, po_some wE.pe, fun {σ' H M R Z} s m h z => (show WE X e σ M _ from h).run s m fun v H1 u M1 t1 m1 r1 s1 ⟨i, e, q⟩ => by subst e; cases r1; exact ⟨i, rfl, z _ _ _ t1 m1 s1 q⟩⟩
  obtain ⟨t1, p1, k1⟩ := po lo
  obtain ⟨t2, p2', k2⟩ := po hi
  refine wE.of (pe_slice sl_list wE.pe p1 p2') (h.run s m fun v H1 u M1 tm1 m1 r1 s1 q1 => k1 s1 m1 q1 fun l H2 M2 tm2 m2 s2 q2 => k2 s2 m2 q2 fun r H3 M3 tm3 m3 s3 q3 => ?_)
  obtain ⟨ws, hl, q⟩ := q3
  obtain ⟨ad, vs, rfl, h1, h2⟩ := hl.v m3 (Rv.mono (tm2.trans tm3) _ _ r1)
  refine ⟨ad, vs, rfl, h1, fun p hp => ⟨.ref p, _, ((tm1.trans tm2).trans tm3).trans (TM.fresh hp), m3.putL (TM.fresh hp) (.inl hp) (ws := cutW ws l r) ?_, .ref p, q p (m3.no hp)⟩⟩
  unfold cutV cutW
  rw [h2.length]
  exact (h2.drop _).take _
/-! ### a comprehension: its target a name of its own -/
theorem Bd.blk (B : Bd P w K mg base CX N sc fl k X) (s0 : Shared) (H0 : Hp) (scope : Scope) (C : Addr) (cl : List (Str × Addr)) (fp : List Addr) : Bd P w K mg base CX N (relabel scope X.env) false k (X.blk s0 H0 scope (compEnvC scope cl C X.env) fp) :=
  ⟨B.eprog, B.ew, B.eK, B.emg, B.ebase, B.eN, rfl, B.calm, B.room, B.pas, PassesOwn.never, B.nd, fun h => nomatch h⟩
theorem wipe1 {σ' : St} {i : Nat} {v : V} : wipe ((wipe σ' [i]).set i (some v)) [i] = wipe σ' [i] := by
  show (((σ'.set i none).set i (some v)).set i none) = σ'.set i none
  rw [List.set_set, List.set_set]
/-- what the block of [elt for x in ..] is to do: the new list at D -/
def Comp (P : Program) (w : World) (K : PySem.W.Frag) (mg : Str → Option Value) (base : Heap) (CX : CXT) (N : List Str) (sc' : Scope) (k : Nat) (elt : Expr) (i : Nat) (Q : VQ) (n : Nat) (it : Nat → VV → Prop) (hold : Mp → Prop) (σ : St3) (M : Mp) : Prop := ∀ D, M D = none → ∃ Pv : Nat → Mp → Prop, Pv 0 (updM M D (.lst [])) ∧ (∀ j M, j ≤ n → Pv j M → hold M) ∧
  (∀ Y : Cx, Bd P w K mg base CX N sc' false k Y → ∀ j u M, j < n → it j u → Pv j M → WE Y elt (σ.set i (some u)) M fun y M2 => ∃ acc, M2 D = some (.lst acc) ∧ acc.length < sizeLine ∧ Pv (j + 1) (updM M2 D (.lst (acc ++ [y])))) ∧ ∀ M, Pv n M → Q (.ref D) M
abbrev teB (X : Cx) (scope : Scope) (elt : Expr) : TE := fun σ H R => ∀ s0 H0 C cl fp, wE (X.blk s0 H0 scope (compEnvC scope cl C X.env) fp) elt σ H R
theorem lcL_read (B : Bd P w K mg base CX N sc fl k X) {elt : Expr} {scope : Scope} (sc' : Scope) (hs' : relabel scope X.env = sc') (h : WE X e σ M fun u M1 => ∃ ws, Lst M1 u ws ∧ Comp P w K mg base CX N sc' k elt i Q ws.length (fun j z => ws[j]? = some z) (fun M => Lst M u ws) σ M1)
    {σ' : St} {H : Hp} (s : Slots X.K H σ' σ) (m : SimM X.K M H) {Qv : VK} (hQ : ∀ v H', PoE X.K H Q v H' → Qv v H') : tLc (iList X.K (wE X e)) (gName i) tYes (teB X scope elt) [i] σ' H Qv := by
  refine h.run s m fun v H1 u M1 t1 m1 r1 s1 ⟨ws, hl, q1⟩ => ?_
  obtain ⟨ad, vs, rfl, h1, h2⟩ := hl.v m1 r1
  refine ⟨ad, rfl, ⟨vs, h1⟩, fun D hD => ?_⟩
  obtain ⟨Pv, p0, ph, ps, pe⟩ := q1 D (m1.no hD)
  have tD : TM H1 (upd H1 D (.lst [])) := TM.fresh hD
  refine ⟨fun j n H2 => n = ws.length - j ∧ j ≤ ws.length ∧ ∃ M2, TM H1 H2 ∧ SimM X.K M2 H2 ∧ Pv j M2, ⟨_, rfl, Nat.zero_le _, _, tD, m1.putL tD (.inl hD) .nil, p0⟩, ?_⟩
  rintro j n H2 ⟨rfl, hj, M2, t2, m2, p2⟩
  have hl2 := ph j M2 hj p2
  obtain ⟨ad', vs2, e', h3, h4⟩ := hl2.v m2 (Rv.mono t2 _ _ r1)
  cases e'
  have hlen := h4.length
  by_cases hlt : j < ws.length
  · obtain ⟨y, hy, ry⟩ := h4.get (i := j) (w := ws[j]) (by simp [hlt])
    refine .inr ⟨⟨vs2, y, h3, hy⟩, fun H' => ∃ M', TM H1 H' ∧ SimM X.K M' H' ∧ Pv (j + 1) M', fun H' z => ⟨_, by omega, rfl, hlt, z⟩, fun y' H' hy' => ?_⟩
    obtain ⟨rfl, hy'⟩ := hy'
    have ey := hy' vs2 h3
    rw [hy] at ey
    cases ey
    refine ⟨wipe1, ?_⟩
    show ∀ s0 H0 C cl fp, wE (X.blk s0 H0 scope (compEnvC scope cl C X.env) fp) elt _ _ _
    intro s0 H0 C cl fp
    have Y := B.blk s0 H0 scope C cl fp
    rw [hs'] at Y
    have z := ps _ Y j ws[j] M2 hlt (by simp [hlt]) p2
    have hset : (wipe σ' [i]).set i (some y) = σ'.set i (some y) := by
      show (σ'.set i none).set i (some y) = _
      rw [List.set_set]
    refine (z _ H' (by rw [hset]; exact (s1.mono t2).set i ry) m2).mono fun y3 H3 ⟨w3, M3, t3, m3, r3, acc, e3, l3, p3⟩ => ?_
    obtain ⟨va, h5, h6⟩ := m3 _ _ e3
    exact ⟨va, h5, by rw [h6.length]; exact l3, _, (t2.trans t3).trans (TM.lst h5), m3.putL (TM.lst h5) (.inr ⟨_, e3⟩) (h6.append (.cons r3 .nil)), p3⟩
  · refine .inl ⟨⟨vs2, h3, by omega⟩, hQ _ _ ⟨.ref D, M2, t1.trans t2, m2, .ref D, pe M2 ?_⟩⟩
    have : j = ws.length := by omega
    subst this; exact p2
theorem lcR_read (B : Bd P w K mg base CX N sc fl k X) {elt : Expr} {scope : Scope} (sc' : Scope) (hs' : relabel scope X.env = sc')
    (h : WA X [a] σ M fun us M1 => ∃ j : Int, us = [.int j] ∧ (-(2 ^ 62) ≤ j ∧ j < 2 ^ 62) ∧ Comp P w K mg base CX N sc' k elt i Q j.toNat (fun j z => z = .int j) (fun M => True) σ M1)
    {σ' : St} {H : Hp} (s : Slots X.K H σ' σ) (m : SimM X.K M H) {Qv : VK} (hQ : ∀ v H', PoE X.K H Q v H' → Qv v H') : tLc (iRng1 (wA X [a])) (gName i) tYes (teB X scope elt) [i] σ' H Qv := by
  refine h.run s m fun v H1 u M1 t1 m1 r1 s1 ⟨jj, e, ⟨l1, l2⟩, q1⟩ => ?_
  subst e
  cases r1 with | cons r1 r2 =>
  cases r1; cases r2
  refine ⟨jj, rfl, l1, l2, fun D hD => ?_⟩
  obtain ⟨Pv, p0, ph, ps, pe⟩ := q1 D (m1.no hD)
  have tD : TM H1 (upd H1 D (.lst [])) := TM.fresh hD
  refine ⟨fun j n H2 => n = jj.toNat - j ∧ j ≤ jj.toNat ∧ ∃ M2, TM H1 H2 ∧ SimM X.K M2 H2 ∧ Pv j M2, ⟨_, rfl, Nat.zero_le _, _, tD, m1.putL tD (.inl hD) .nil, p0⟩, ?_⟩
  rintro j n H2 ⟨rfl, hj, M2, t2, m2, p2⟩
  by_cases hlt : j < jj.toNat
  · refine .inr ⟨hlt, fun H' => ∃ M', TM H1 H' ∧ SimM X.K M' H' ∧ Pv (j + 1) M', fun H' z => ⟨_, by omega, rfl, hlt, z⟩, fun y' H' hy' => ?_⟩
    obtain ⟨rfl, rfl⟩ := hy'
    refine ⟨wipe1, ?_⟩
    show ∀ s0 H0 C cl fp, wE (X.blk s0 H0 scope (compEnvC scope cl C X.env) fp) elt _ _ _
    intro s0 H0 C cl fp
    have Y := B.blk s0 H0 scope C cl fp
    rw [hs'] at Y
    have z := ps _ Y j _ M2 hlt rfl p2
    have hset : (wipe σ' [i]).set i (some (V.int (0 + (j : Int)))) = σ'.set i (some (V.int (0 + (j : Int)))) := by
      show (σ'.set i none).set i _ = _
      rw [List.set_set]
    refine (z _ H' (by rw [hset]; exact (s1.mono t2).set i (by rw [Int.zero_add]; exact .int _)) m2).mono fun y3 H3 ⟨w3, M3, t3, m3, r3, acc, e3, l3, p3⟩ => ?_
    obtain ⟨va, h5, h6⟩ := m3 _ _ e3
    exact ⟨va, h5, by rw [h6.length]; exact l3, _, (t2.trans t3).trans (TM.lst h5), m3.putL (TM.lst h5) (.inr ⟨_, e3⟩) (h6.append (.cons r3 .nil)), p3⟩
  · refine .inl ⟨(by show jj.toNat ≤ j; omega), hQ _ _ ⟨.ref D, M2, t1.trans t2, m2, .ref D, pe M2 ?_⟩⟩
    have : j = jj.toNat := by omega
    subst this; exact p2
/-- an environment of that scope: what a rule asks of the environment alone by its scope -/
def cenv (sc : Scope) : Env := PyProof.Rows.envOfC "" sc 0 0 .none
theorem swStores_of {ts : List Expr} {v : Expr} {env env' : Env} (h : env.scope = env'.scope) : swappedStores ts v env = swappedStores ts v env' := by
  obtain ⟨s, _, _, _, _, _, _, _, _⟩ := env
  obtain ⟨s', _, _, _, _, _, _, _, _⟩ := env'
  have e : s = s' := h
  subst e
  rfl
theorem swWith_of {v : Expr} {t : Option Expr} {l : Nat} {env env' : Env} (h : env.scope = env'.scope) : swapsWith v t l env = swapsWith v t l env' := by
  obtain ⟨s, _, _, _, _, _, _, _, _⟩ := env
  obtain ⟨s', _, _, _, _, _, _, _, _⟩ := env'
  have e : s = s' := h
  subst e
  rfl
theorem relabel_of {scope : Scope} {env env' : Env} (h : env.scope = env'.scope) : relabel scope env = relabel scope env' := by
  obtain ⟨s, _, _, _, _, _, _, _, _⟩ := env
  obtain ⟨s', _, _, _, _, _, _, _, _⟩ := env'
  have e : s = s' := h
  subst e
  rfl
/-- the scope of a comprehension's block in a def of the scope sc -/
abbrev scBlk (scope sc : Scope) : Scope := relabel scope (cenv sc)
theorem Bd.rel (B : Bd P w K mg base CX N sc fl k X) (scope : Scope) : relabel scope X.env = scBlk scope sc := relabel_of (by rw [B.esc]; rfl)
section
variable {elt : Expr} {scope : Scope} {px : Pos}
theorem Bd.pgB (B : Bd P w K mg base CX N sc fl k X) (hi : At N i x) (hx : (scBlk scope sc).names.lookup x = some .local) (s0 : Shared) (H0 : Hp) (C : Addr) (cl : List (Str × Addr)) (fp : List Addr) : PG (X.blk s0 H0 scope (compEnvC scope cl C X.env) fp) (.Name x px) (gName i) :=
  pg_name (i := i) (by show X.N.Nodup; rw [B.eN]; exact B.nd) (by show X.N[i]? = _; rw [B.eN]; exact hi.get) (.inl (by show (relabel scope X.env).names.lookup x = _; rw [B.rel]; exact hx)) (.inr (by show (relabel scope X.env).names.lookup x = _; rw [B.rel]; exact hx))
theorem we_lcLst (B : Bd P w K mg base CX N sc fl k X) (hi : At N i x) (hok : blkC N sc scope [(x, i)] = true) (hx : (scBlk scope sc).names.lookup x = some .local)
    (h : WE X e σ M fun u M1 => ∃ ws, Lst M1 u ws ∧ Comp P w K mg base CX N (scBlk scope sc) k elt i Q ws.length (fun j z => ws[j]? = some z) (fun M => Lst M u ws) σ M1)
    (hs : ∀ x, foldedSetIterable e X.env x = pure x := by intro _; rfl) : WE X (.ListComp elt [⟨.Name x px, e, [], 0⟩] scope pos) σ M Q := fun σ' H s m =>
  wE.of (pe_lc (own := [(x, i)]) (tt := tYes) (g := gName i) (te := teB X scope elt) B.calm (by rw [B.eN]; exact B.nd) (pi_list wE.pe) (by rw [B.eN, B.esc]; exact blkOk_by hok)
    (B.pgB hi hx) (fun _ _ _ _ _ => pts_nil) (fun s0 H0 C cl fp => ⟨fun pins s σ H R I h => h s0 H0 C cl fp pins s I⟩) hs) (lcL_read B _ (B.rel scope) h s m fun _ _ z => z)
theorem we_lcRange1 (B : Bd P w K mg base CX N sc fl k X) {p pos' : Pos} (hi : At N i x) (hok : blkC N sc scope [(x, i)] = true) (hx : (scBlk scope sc).names.lookup x = some .local) (hg : sc.names.lookup ("range" : Str) = some .globalImplicit) (hm : mg "range" = none)
    (h : WA X [a] σ M fun us M1 => ∃ j : Int, us = [.int j] ∧ (-(2 ^ 62) ≤ j ∧ j < 2 ^ 62) ∧ Comp P w K mg base CX N (scBlk scope sc) k elt i Q j.toNat (fun j z => z = .int j) (fun M => True) σ M1)
    (hsp : starEach [a] X.env = [(false, eval a X.env)] := by rfl) (hs : ∀ x, foldedSetIterable (.Call (.Name "range" p) [a] [] pos') X.env x = pure x := by intro _; rfl) : WE X (.ListComp elt [⟨.Name x px, .Call (.Name "range" p) [a] [] pos', [], 0⟩] scope pos) σ M Q := fun σ' H s m =>
  wE.of (pe_lc (own := [(x, i)]) (tt := tYes) (g := gName i) (te := teB X scope elt) B.calm (by rw [B.eN]; exact B.nd) (pi_range1 (by show X.env.scope.names.lookup _ = _; rw [B.esc]; exact hg) (by rw [B.emg]; exact hm) wA.pa hsp) (by rw [B.eN, B.esc]; exact blkOk_by hok)
    (B.pgB hi hx) (fun _ _ _ _ _ => pts_nil) (fun s0 H0 C cl fp => ⟨fun pins s σ H R I h => h s0 H0 C cl fp pins s I⟩) hs) (lcR_read B _ (B.rel scope) h s m fun _ _ z => z)
/-- y = [..], y a local name on the same line -/
theorem ws_setLcLst (B : Bd P w K mg base CX N sc fl k X) {y : Str} {py : Pos} {iy : Nat} (hiy : At N iy y) (hyl : sc.names.lookup y = some .local) (hsw : swapsWith (.ListComp elt [⟨.Name x px, e, [], 0⟩] scope pos) (some (.Name y py)) spos.line (cenv sc) = pure true) (hi : At N i x) (hok : blkC N sc scope [(x, i)] = true) (hx : (scBlk scope sc).names.lookup x = some .local)
    (h : WE X e σ M fun u M1 => ∃ ws, Lst M1 u ws ∧ Comp P w K mg base CX N (scBlk scope sc) k elt i (fun u M1 => D.nx (σ.set iy (some u)) M1) ws.length (fun j z => ws[j]? = some z) (fun M => Lst M u ws) σ M1)
    (hs : ∀ x, foldedSetIterable e X.env x = pure x := by intro _; rfl) : WS X (.Assign [.Name y py] (.ListComp elt [⟨.Name x px, e, [], 0⟩] scope pos) spos) σ M D := fun σ' H s m =>
  wS.of (ps_setLc (i := iy) (own := [(x, i)]) (tt := tYes) (g := gName i) (te := teB X scope elt) B.calm (by rw [B.eN]; exact B.nd) (by rw [B.eN]; exact hiy.get) (by rw [B.esc]; exact hyl) (by rw [swWith_of (env' := cenv sc) (by rw [B.esc]; rfl)]; exact hsw) (pi_list wE.pe) (by rw [B.eN, B.esc]; exact blkOk_by hok)
    (B.pgB hi hx) (fun _ _ _ _ _ => pts_nil) (fun s0 H0 C cl fp => ⟨fun pins s σ H R I h => h s0 H0 C cl fp pins s I⟩) hs) (lcL_read B _ (B.rel scope) h s m fun v H' ⟨u, M', t, m', r, q⟩ => ⟨_, M', t, (s.mono t).set iy r, m', q⟩)
theorem ws_setLcRange1 (B : Bd P w K mg base CX N sc fl k X) {p pos' : Pos} {y : Str} {py : Pos} {iy : Nat} (hiy : At N iy y) (hyl : sc.names.lookup y = some .local) (hsw : swapsWith (.ListComp elt [⟨.Name x px, .Call (.Name "range" p) [a] [] pos', [], 0⟩] scope pos) (some (.Name y py)) spos.line (cenv sc) = pure true) (hi : At N i x) (hok : blkC N sc scope [(x, i)] = true) (hx : (scBlk scope sc).names.lookup x = some .local)
    (hg : sc.names.lookup ("range" : Str) = some .globalImplicit) (hm : mg "range" = none)
    (h : WA X [a] σ M fun us M1 => ∃ j : Int, us = [.int j] ∧ (-(2 ^ 62) ≤ j ∧ j < 2 ^ 62) ∧ Comp P w K mg base CX N (scBlk scope sc) k elt i (fun u M1 => D.nx (σ.set iy (some u)) M1) j.toNat (fun j z => z = .int j) (fun M => True) σ M1)
    (hsp : starEach [a] X.env = [(false, eval a X.env)] := by rfl) (hs : ∀ x, foldedSetIterable (.Call (.Name "range" p) [a] [] pos') X.env x = pure x := by intro _; rfl) : WS X (.Assign [.Name y py] (.ListComp elt [⟨.Name x px, .Call (.Name "range" p) [a] [] pos', [], 0⟩] scope pos) spos) σ M D := fun σ' H s m =>
  wS.of (ps_setLc (i := iy) (own := [(x, i)]) (tt := tYes) (g := gName i) (te := teB X scope elt) B.calm (by rw [B.eN]; exact B.nd) (by rw [B.eN]; exact hiy.get) (by rw [B.esc]; exact hyl) (by rw [swWith_of (env' := cenv sc) (by rw [B.esc]; rfl)]; exact hsw) (pi_range1 (by show X.env.scope.names.lookup _ = _; rw [B.esc]; exact hg) (by rw [B.emg]; exact hm) wA.pa hsp) (by rw [B.eN, B.esc]; exact blkOk_by hok)
    (B.pgB hi hx) (fun _ _ _ _ _ => pts_nil) (fun s0 H0 C cl fp => ⟨fun pins s σ H R I h => h s0 H0 C cl fp pins s I⟩) hs) (lcR_read B _ (B.rel scope) h s m fun v H' ⟨u, M', t, m', r, q⟩ => ⟨_, M', t, (s.mono t).set iy r, m', q⟩)
/-- a, b = c, d of two local names, the stores from the right -/
theorem ws_par2 (B : Bd P w K mg base CX N sc fl k X) {j : Nat} {y : Str} {px py pt : Pos} {kt k2 pt2} (hi : At N i x) (hj : At N j y) (hij : (i == j) = false) (hx : sc.names.lookup x = some .local) (hy : sc.names.lookup y = some .local)
    (hw : swappedStores [.Tuple [.Name x px, .Name y py] kt pt] (.Tuple [a, b] k2 pt2) (cenv sc) = pure (some [x, y]))
    (h : WA X [a, b] σ M fun us M1 => ∃ u v, us = [u, v] ∧ D.nx ((σ.set i (some u)).set j (some v)) M1)
    (hs : swapsWithSole [.Tuple [.Name x px, .Name y py] kt pt] (.Tuple [a, b] k2 pt2) pos.line X.env = pure false := by rfl) :
    WS X (.Assign [.Tuple [.Name x px, .Name y py] kt pt] (.Tuple [a, b] k2 pt2) pos) σ M D :=
  ws_par B hi hj (by simpa using hij) hx hy h (fun e => (swStores_of (env' := cenv sc) (by rw [e]; rfl)).trans hw) hs
/-- .. of names that are not both local: through the tuple -/
theorem ws_asgT (B : Bd P w K mg base CX N sc fl k X) (hw : swappedStores [tg] e (cenv sc) = pure none) (h : WE X e σ M fun u M1 => WG X tg u σ M1 D.nx) (hs : swapsWithSole [tg] e pos.line X.env = pure false := by rfl)
    (h1 : (assignEach [tg] X.env).map (·.2) = [assign tg X.env] := by rfl) : WS X (.Assign [tg] e pos) σ M D :=
  ws_asg h hs ((swStores_of (env' := cenv sc) (by rw [B.esc]; rfl)).trans hw) h1
end
/-! ### a def -/
theorem df_of {y qual : Str} {st : Stmt} {f : Addr} {fd : FuncData} {ps : List Str} (F : FunD K y qual (defArgs st) (defBody st) (defScope st) [] [] f fd) (hmg : mg x = some (.ref f)) (S : FnScope N ps (defScope st)) (bi : ∀ (s : Shared) (us : List Value), us.length = ps.length → BindsTo s fd ⟨us, []⟩ (ps.zip us)) (hpas : ∀ Y : Cx, Y.prog = P → Y.w = w → Passes CX Y E0)
    {sp : Sp3} (len : ∀ ws M Q, sp ws M Q → ws.length = ps.length)
    (body : ∀ X : Cx, Bd P w K mg base CX N (defScope st) true k X → ∀ ws M Q, sp ws M Q → WSs X (defBody st) (ws.map some ++ List.replicate (N.length - ws.length) none) M
      { nx := fun _ M' => ∃ M0, LeM M0 M' ∧ Q .non M0, rt := fun u M' => ∃ M0, LeM M0 M' ∧ Q u M0 }) : Df P w K mg base CX (k + 1) x ps sp := by
  obtain ⟨oc, od, dV, kV, doc, pm, an, cdv, ct, osl, rfl, lk, hcd, _, _⟩ := F.ex
  refine ⟨f, _, hmg, F.kp, bi, fn_of lk hcd S (fun vs H Q E ⟨ws, M, Q3, _, r, h, _⟩ => by rw [r.length]; exact len ws M Q3 h) fun A outer s H vs Q E hr ⟨ws, M, Q3, m, r, h, hq⟩ => ?_, oc, od, osl, lk⟩
  have B : Bd P w K mg base CX N (defScope st) true k (cxOf CX P w K mg base N qual (defScope st) f cdv A outer s H E).nox :=
    ⟨rfl, rfl, rfl, rfl, rfl, rfl, rfl, rfl, hr, hpas, PassesOwn.never, S.nd, fun _ _ => rfl⟩
  have b := body _ B ws M Q3 h (L2.start N vs) H (Slots.start r N) m
  refine ⟨wSs _ (defBody st), wSs.pss.nox, b.mono ?_ ?_ ?_ ?_⟩
  · rintro σ' H' ⟨_, M', t, _, m', M0, l, q⟩
    exact hq _ _ _ _ q t (m'.sub l) .non
  · rintro v H' ⟨u, M', t, m', rv, M0, l, q⟩
    exact hq _ _ _ _ q t (m'.sub l) rv
  · rintro σ' H' ⟨_, _, _, _, _, q⟩; exact q.elim
  · rintro σ' H' ⟨_, _, _, _, _, q⟩; exact q.elim
end
end G3

set_option Elab.async false
set_option linter.all false
set_option maxRecDepth 100000
set_option maxHeartbeats 4000000
/-! L3: the text's defs under one head; branches -/
namespace G3
open PySem PySem.Spec L2
theorem ite_dec {p A B : Prop} [Decidable p] (h1 : p → A) (h2 : ¬ p → B) : if decide p = true then A else B := by
  by_cases h : p
  · simp only [h, decide_true, if_true]; exact h1 h
  · simp only [h, decide_false]; exact h2 h
theorem ite_ndec {p A B : Prop} [Decidable p] (h1 : ¬ p → A) (h2 : p → B) : if (!decide p) = true then A else B := by
  by_cases h : p
  · simp only [h, decide_true]; exact h2 h
  · simp only [h, decide_false]; exact h1 h
theorem ite_bl {b : Bool} {A B : Prop} (h1 : b = true → A) (h2 : b = false → B) : if b = true then A else B := by
  cases b
  · exact iteF (h2 rfl)
  · exact iteT (h1 rfl)
theorem ite_nbl {b : Bool} {A B : Prop} (h1 : b = false → A) (h2 : b = true → B) : if (!b) = true then A else B := by
  cases b
  · exact iteT (h1 rfl)
  · exact iteF (h2 rfl)
theorem ite_yes {c A B : Prop} [Decidable c] (h : c) (a : A) : if c then A else B := by rw [if_pos h]; exact a
theorem ite_no {c A B : Prop} [Decidable c] (h : ¬ c) (b : B) : if c then A else B := by rw [if_neg h]; exact b
section
variable {X : Cx} {a b c e tg : Expr} {es : List Expr} {σ : St3} {M : Mp} {Q : VQ} {D : En} {pos : Pos} {x : Str} {i : Nat}
variable {P : Program} {w : World} {K : PySem.W.Frag} {mg : Str → Option Value} {base : Heap} {CX : CXT} {N : List Str} {sc : Scope} {fl : Bool} {k : Nat}
def Fgt (Q : VQ) : VQ := fun u M' => ∃ M0, LeM M0 M' ∧ Q u M0
theorem we_forget (h : WE X e σ M (Fgt Q)) : WE X e σ M Q := fun σ' H s m =>
  (h σ' H s m).mono fun _ _ ⟨u, M', t, m', r, M0, l, q⟩ => ⟨u, M0, t, m'.sub l, r, q⟩
theorem ws_forget {st : Stmt} (h : WS X st σ M { D with nx := fun σ' M' => ∃ M0, LeM M0 M' ∧ D.nx σ' M0, rt := Fgt D.rt }) : WS X st σ M D := fun σ' H s m =>
  (h σ' H s m).mono (fun _ _ ⟨u, M', t, s', m', M0, l, q⟩ => ⟨u, M0, t, s', m'.sub l, q⟩) (fun _ _ ⟨u, M', t, m', r, M0, l, q⟩ => ⟨u, M0, t, m'.sub l, r, q⟩) (fun _ _ z => z) fun _ _ z => z
theorem LeM.upd {M M' : Mp} {p : Addr} {o : MO} (h : LeM M M') : LeM (updM M p o) (updM M' p o) := fun a u e => by
  by_cases ha : a = p
  · subst ha; rw [updM_same] at e ⊢; exact e
  · rw [updM_ne ha] at e ⊢; exact h a u e
theorem Lst.le {M M' : Mp} {u : VV} {ws : List VV} (h : Lst M u ws) (l : LeM M M') : Lst M' u ws := by
  cases h with
  | ref e => exact .ref (l _ _ e)
  | seq => exact .seq _
theorem LeM.new {M : Mp} {p : Addr} {o : MO} (n : M p = none) : LeM M (updM M p o) := LeM.put LeM.refl n
theorem comp_pure {α : Type} {elt : Expr} {sc' : Scope} {xs : List α} {v f : α → VV} {u : VV} (hl : Lst M u (xs.map v)) (hz : xs.length ≤ sizeLine)
    (he : ∀ Y : Cx, Bd P w K mg base CX N sc' false k Y → ∀ (j : Nat) (z : α) M', xs[j]? = some z → LeM M M' → WE Y elt (σ.set i (some (v z))) M' fun y M2 => y = f z ∧ LeM M' M2)
    (q : ∀ D, M D = none → Q (.ref D) (updM M D (.lst (xs.map f)))) : Comp P w K mg base CX N sc' k elt i (Fgt Q) (xs.map v).length (fun j z => (xs.map v)[j]? = some z) (fun M => Lst M u (xs.map v)) σ M := fun D hD => by
  refine ⟨fun j M' => LeM (updM M D (.lst ((xs.take j).map f))) M', LeM.refl, fun j M' _ h => hl.le ((LeM.new hD).trans h), fun Y B j z M' hj hz' h => ?_, fun M' h => ⟨_, h, ?_⟩⟩
  · have hz2 : (xs.map v)[j]? = some z := hz'
    clear hz'
    rw [List.getElem?_map] at hz2
    rw [List.length_map] at hj
    have hx : xs[j]? = some xs[j] := by simp [hj]
    rw [hx] at hz2
    cases hz2
    refine (he Y B j _ M' hx ((LeM.new hD).trans h)).mono fun y M2 ⟨e, l⟩ => ⟨_, l _ _ (h D _ updM_same), ?_, ?_⟩
    · rw [List.length_map, List.length_take]; omega
    · subst e
      have e1 : (xs.take (j + 1)).map f = (xs.take j).map f ++ [f xs[j]] := by
        rw [List.take_add_one, hx, List.map_append]; rfl
      have e2 := LeM.upd (p := D) (o := .lst ((xs.take (j + 1)).map f)) (h.trans l)
      rw [updM_updM] at e2
      rw [e1] at e2 ⊢
      exact e2
  · rw [List.length_map, List.take_length]; exact q D hD
/-- .. as it is wanted of a statement: what is wanted stays true of a greater heap -/
theorem comp_pureS {α : Type} {elt : Expr} {sc' : Scope} {xs : List α} {v f : α → VV} {u : VV} {R : VQ} (hl : Lst M u (xs.map v)) (hz : xs.length ≤ sizeLine)
    (he : ∀ Y : Cx, Bd P w K mg base CX N sc' false k Y → ∀ (j : Nat) (z : α) M', xs[j]? = some z → LeM M M' → WE Y elt (σ.set i (some (v z))) M' fun y M2 => y = f z ∧ LeM M' M2)
    (q : ∀ D, M D = none → Q (.ref D) (updM M D (.lst (xs.map f)))) (hR : ∀ u M', Fgt Q u M' → R u M' := by exact fun _ _ h => h) : Comp P w K mg base CX N sc' k elt i R (xs.map v).length (fun j z => (xs.map v)[j]? = some z) (fun M => Lst M u (xs.map v)) σ M := fun D hD => by
  obtain ⟨Pv, p0, ph, ps, pe⟩ := comp_pure hl hz he q D hD
  exact ⟨Pv, p0, ph, ps, fun M' h => hR _ _ (pe M' h)⟩
theorem comp_pureR {elt : Expr} {sc' : Scope} {n : Nat} {f : Nat → VV} (hz : n ≤ sizeLine)
    (he : ∀ Y : Cx, Bd P w K mg base CX N sc' false k Y → ∀ (j : Nat) M', j < n → LeM M M' → WE Y elt (σ.set i (some (.int j))) M' fun y M2 => y = f j ∧ LeM M' M2)
    (q : ∀ D, M D = none → Q (.ref D) (updM M D (.lst ((List.range n).map f)))) : Comp P w K mg base CX N sc' k elt i (Fgt Q) n (fun j z => z = .int j) (fun _ => True) σ M := fun D hD => by
  refine ⟨fun j M' => LeM (updM M D (.lst ((List.range j).map f))) M', LeM.refl, fun j M' _ h => trivial, fun Y B j z M' hj hz' h => ?_, fun M' h => ⟨_, h, q D hD⟩⟩
  subst hz'
  refine (he Y B j M' hj ((LeM.new hD).trans h)).mono fun y M2 ⟨e, l⟩ => ⟨_, l _ _ (h D _ updM_same), ?_, ?_⟩
  · rw [List.length_map, List.length_range]; omega
  · subst e
    have e1 : (List.range (j + 1)).map f = (List.range j).map f ++ [f j] := by
      rw [List.range_succ, List.map_append]; rfl
    have e2 := LeM.upd (p := D) (o := .lst ((List.range (j + 1)).map f)) (h.trans l)
    rw [updM_updM] at e2
    rw [e1] at e2 ⊢
    exact e2
theorem cut_nat {ws : List VV} {i j : Int} {a b : Nat} (hi : i = a) (hj : j = b) (ha : a ≤ ws.length) (hb : b ≤ ws.length) : cutW ws (some i) (some j) = (ws.drop a).take (b - a) := by
  subst hi hj
  unfold cutW
  rw [HT.sIx_nat, HT.sIx_nat, Nat.min_eq_left ha, Nat.min_eq_left hb]
theorem cut_to {ws : List VV} {j : Int} {b : Nat} (hj : j = b) : cutW ws none (some j) = ws.take b := by
  subst hj
  unfold cutW
  rw [HT.sIx_nat, HT.sIx_none, List.drop_zero, Nat.sub_zero]
  rcases Nat.le_total b ws.length with h | h
  · rw [Nat.min_eq_left h]
  · rw [Nat.min_eq_right h, List.take_length, List.take_of_length_le h]
theorem cut_from {ws : List VV} {i : Int} {a : Nat} (hi : i = a) : cutW ws (some i) none = ws.drop a := by
  subst hi
  unfold cutW
  rw [HT.sIx_nat, HT.sIx_none]
  rcases Nat.le_total a ws.length with h | h
  · rw [Nat.min_eq_left h, List.take_of_length_le (by rw [List.length_drop]; omega)]
  · rw [Nat.min_eq_right h, List.drop_length, List.drop_of_length_le h, List.take_nil]
end
/-- a law's text, its fragment, its module -/
structure Ev where
  P : Program
  w : World
  K : PySem.W.Frag
  mg : Str → Option Value
  base : Heap
  CX : CXT
  hp : ∀ Y : Cx, Y.prog = P → Y.w = w → Passes CX Y E0
abbrev Ev.df (E : Ev) (k : Nat) (x : Str) (ps : List Str) (sp : Sp3) : Prop := Df E.P E.w E.K E.mg E.base E.CX k x ps sp
abbrev Ev.bd (E : Ev) (N : List Str) (sc : Scope) (fl : Bool) (k : Nat) (X : Cx) : Prop := Bd E.P E.w E.K E.mg E.base E.CX N sc fl k X
/-- the def stands -/
def Tx (E : Ev) (x : Str) (st : Stmt) (ps : List Str) : Prop := ∃ f fd, FunD E.K x x (defArgs st) (defBody st) (defScope st) [] [] f fd ∧ E.mg x = some (.ref f) ∧ ∀ (s : Shared) (us : List Value), us.length = ps.length → BindsTo s fd ⟨us, []⟩ (ps.zip us)
theorem Tx.df {E : Ev} {x : Str} {st : Stmt} {ps : List Str} (T : Tx E x st ps) (N : List Str) {k : Nat} {sp : Sp3} (S : FnScope N ps (defScope st)) (len : ∀ ws M Q, sp ws M Q → ws.length = ps.length)
    (body : ∀ X : Cx, E.bd N (defScope st) true k X → ∀ ws M Q, sp ws M Q → WSs X (defBody st) (ws.map some ++ List.replicate (N.length - ws.length) none) M
      { nx := fun _ M' => ∃ M0, LeM M0 M' ∧ Q .non M0, rt := fun u M' => ∃ M0, LeM M0 M' ∧ Q u M0 }) : E.df (k + 1) x ps sp := by
  obtain ⟨f, fd, F, hm, bi⟩ := T
  exact df_of F hm S bi E.hp len body
/-- a def's datum for the head -/
def dD (x : Str) (st : Stmt) : He.DefD := ⟨(x, none), x, x, defArgs st, defBody st, defScope st, [], []⟩
theorem Tx.mk {E : Ev} {h : Heap} {fa : List He.Fa} {fn : List He.DefD} (X : E.K.In h) (G : h.Ns mainGlobals E.mg) (c : He.SaysD fa fn E.K) (i j : Nat) {x : Str} {st : Stmt} {ps : List Str} (hd : fn[i]? = some (dD x st)) (hg : fa[j]? = some (.glo x))
    (hb : ∀ (kV doc pm : Value) (an : Option Addr) (cdv ct : Value) (us : List Value), us.length = ps.length → bindArgs (PySem.W.fnOf x x (defArgs st) (defBody st) (defScope st) .none kV doc pm an cdv ct) ⟨us, []⟩ = pure (ps.zip us)) : Tx E x st ps := by
  obtain ⟨fd, F⟩ := c.def_ i hd
  exact ⟨_, fd, F, He.glo_ok X G (c.fact j hg), fun s us hl => FunD.bindsA (ps := ps) F hb s us hl⟩
theorem free_mk {E : Ev} {h : Heap} {fa : List He.Fa} {fn : List He.DefD} (X : E.K.In h) (G : h.Ns mainGlobals E.mg) (c : He.SaysD fa fn E.K) (j : Nat) {x : Str} (hg : fa[j]? = some (.free x)) : E.mg x = none := He.free_ok X G (c.fact j hg)
theorem tup_mk {E : Ev} {h : Heap} {fa : List He.Fa} {fn : List He.DefD} (X : E.K.In h) (G : h.Ns mainGlobals E.mg) (c : He.SaysD fa fn E.K) (j : Nat) {x : Str} (hg : fa[j]? = some (.glo x)) {vs : List He.Dv} {ws : List VV} (ht : He.tupB E.K x vs = true) (hr : ∀ H, Rvs E.K H (vs.map (He.Dv.v E.K)) ws) :
    ∃ a, E.mg x = some (.ref a) ∧ ∀ H, Rv E.K H (.ref a) (.tup ws) :=
  ⟨_, He.glo_ok X G (c.fact j hg), fun H => .tup (He.tupB_ok ht H) (hr H)⟩
/-- the law's def, for the end: what is handed in and what comes out -/
def spTop : Sp3 := fun ws M Q => ∃ (w : VV) (ns : List Int), ws = [w] ∧ Lst M w (ns.map .int) ∧ (∀ a, M a ≠ some .bag) ∧ ∀ M', Q (.bl true) M'
theorem end_of {E : Ev} {k : Nat} {x y : Str} (D : E.df k x [y] spTop) {fa : Addr} (hfa : E.mg x = some (.ref fa)) : ∃ fd : FuncData, (∀ (s : Shared) (u : Value), BindsTo s fd ⟨[u], []⟩ [(y, u)]) ∧ FnOk E.P E.w E.K E.mg E.base E.CX k fa fd [y] (toSp E.K spTop) ∧ ∃ oc od osl, E.K.lookup fa = some ⟨oc, od, .func fd, osl⟩ := by
  obtain ⟨f, fd, h1, h2, h3, h4, h5⟩ := D
  have e := hfa.symm.trans h1
  cases e
  exact ⟨fd, fun s u => h3 s [u] rfl, h4, h5⟩
theorem end_sp {K : PySem.W.Frag} {H : Hp} {a : Addr} {ns : List Int} (hS : SqL K H a (ns.map V.int)) : toSp K spTop [.ref a] H (fun v _ => v = .bl true) fun _ _ _ => False := by
  have fin : ∀ (w : VV) (M : Mp), SimM K M H → Rv K H (.ref a) w → Lst M w (ns.map .int) → (∀ a, M a ≠ some .bag) → toSp K spTop [.ref a] H (fun v _ => v = .bl true) fun _ _ _ => False := fun w M m r hl nb =>
    ⟨[w], M, fun u _ => u = .bl true, m, .cons r .nil, ⟨w, ns, rfl, hl, nb, fun _ => rfl⟩, fun u M' v H' q _ _ rv => by subst q; cases rv; rfl⟩
  rcases hS with (h | h) | h
  · refine fin (.ref a) (fun b => if b = a then some (.lst (ns.map .int)) else none) (fun b o e => ?_) (.ref a) (.ref (if_pos rfl)) fun b z => ?_
    · by_cases hb : b = a
      · subst hb
        have e2 : some (MO.lst (ns.map VV.int)) = some o := by simpa using e
        cases e2
        exact ⟨_, h, Rvs.of_ints⟩
      · simp [hb] at e
    · by_cases hb : b = a
      · simp [hb] at z
      · simp [hb] at z
  · exact fin (.seq (ns.map .int)) (fun _ => none) (fun b o e => by cases e) (.seq (.inl h) Rvs.of_ints) (.seq _) fun b z => by cases z
  · exact fin (.seq (ns.map .int)) (fun _ => none) (fun b o e => by cases e) (.seq (.inr h) Rvs.of_ints) (.seq _) fun b z => by cases z
theorem SaysT_d {fa : List He.Fa} {fn : List He.DefD} {ts : List He.Tab} {w : World} {K : PySem.W.Frag} (c : He.SaysT fa fn ts w K) : He.SaysD fa fn K := congrArg (fun z : He.AlT => z.1) c
/-- the promise says how many arguments -/
theorem len_of {α : Sort _} {n : Nat} {ws : List VV} {p : List VV} {q : Prop} (h : ws = p ∧ q) (e : p.length = n) : ws.length = n := by rw [h.1]; exact e
theorem bb_abs : bootBuiltins "abs" = some (.builtin "abs") := by decide +kernel
theorem bb_len : bootBuiltins "len" = some (.builtin "len") := by decide +kernel
theorem bb_all : bootBuiltins "all" = some (.builtin "all") := by decide +kernel
theorem bb_any : bootBuiltins "any" = some (.builtin "any") := by decide +kernel
theorem bb_isi : bootBuiltins "isinstance" = some (.builtin "isinstance") := by decide +kernel
theorem bb_max : bootBuiltins "max" = some (.builtin "max") := by decide +kernel
theorem bb_min : bootBuiltins "min" = some (.builtin "min") := by decide +kernel
theorem bb_list : bootBuiltins "list" = some (.type "list") := by decide +kernel
theorem bb_int : bootBuiltins "int" = some (.type "int") := by decide +kernel
theorem bb_bool : bootBuiltins "bool" = some (.type "bool") := by decide +kernel
theorem bb_str : bootBuiltins "str" = some (.type "str") := by decide +kernel
theorem bb_dict : bootBuiltins "dict" = some (.type "dict") := by decide +kernel
theorem bb_tuple : bootBuiltins "tuple" = some (.type "tuple") := by decide +kernel
end G3

set_option Elab.async false
set_option linter.all false
set_option maxRecDepth 100000
set_option maxHeartbeats 4000000
/-! ratios in plain Lean -/
namespace G3
open PySem
abbrev Rt := Int × Int
/-- a ratio in lowest terms -/
def nrm (a b : Int) : Rt := if b < 0 then (a.fdiv (-(Int.gcd a b : Int)), b.fdiv (-(Int.gcd a b : Int))) else (a.fdiv (Int.gcd a b), b.fdiv (Int.gcd a b))
abbrev vr (q : Rt) : VV := .tup [.int q.1, .int q.2]
def rsum (p q : Rt) : Rt := nrm (p.1 * q.2 + q.1 * p.2) (p.2 * q.2)
def rdif (p q : Rt) : Rt := nrm (p.1 * q.2 - q.1 * p.2) (p.2 * q.2)
def rprod (p q : Rt) : Rt := nrm (p.1 * q.1) (p.2 * q.2)
def rquo (p q : Rt) : Rt := nrm (p.1 * q.2) (p.2 * q.1)
def rcomp (p q : Rt) : Int := p.1 * q.2 - q.1 * p.2
def rabs (p : Rt) : Rt := ((p.1.natAbs : Int), p.2)
/-- a ratio of numbers of at most n bits, its lower one above nought -/
structure RB (n : Nat) (p : Rt) : Prop where
  n1 : p.1.natAbs < 2 ^ n
  n2 : p.2.natAbs < 2 ^ n
  pos : 0 < p.2
theorem RB.mono {n m : Nat} {p : Rt} (h : RB n p) (l : n ≤ m) : RB m p :=
  ⟨Nat.lt_of_lt_of_le h.n1 (Nat.pow_le_pow_right (by decide) l), Nat.lt_of_lt_of_le h.n2 (Nat.pow_le_pow_right (by decide) l), h.pos⟩
theorem mul_bits {i j : Int} {a b : Nat} (ha : i.natAbs < 2 ^ a) (hb : j.natAbs < 2 ^ b) : (i * j).natAbs < 2 ^ (a + b) := by
  rw [Int.natAbs_mul, Nat.pow_add]
  exact Nat.mul_lt_mul'' ha hb
theorem add_bits {i j : Int} {a : Nat} (ha : i.natAbs < 2 ^ a) (hb : j.natAbs < 2 ^ a) : (i + j).natAbs < 2 ^ (a + 1) := by
  rw [Nat.pow_succ]; omega
theorem sub_bits {i j : Int} {a : Nat} (ha : i.natAbs < 2 ^ a) (hb : j.natAbs < 2 ^ a) : (i - j).natAbs < 2 ^ (a + 1) := by
  rw [Nat.pow_succ]; omega
theorem fdiv_gcd (a b : Int) (hb : b ≠ 0) : ∃ x y : Int, a = x * (Int.gcd a b : Int) ∧ b = y * (Int.gcd a b : Int) ∧ 0 < Int.gcd a b ∧ a.fdiv (Int.gcd a b) = x ∧ b.fdiv (Int.gcd a b) = y ∧ a.fdiv (-(Int.gcd a b : Int)) = -x ∧ b.fdiv (-(Int.gcd a b : Int)) = -y ∧ Int.gcd x y = 1 := by
  have g0 : 0 < Int.gcd a b := Int.gcd_pos_of_ne_zero_right a hb
  obtain ⟨x, hx⟩ : (Int.gcd a b : Int) ∣ a := Int.gcd_dvd_left ..
  obtain ⟨y, hy⟩ : (Int.gcd a b : Int) ∣ b := Int.gcd_dvd_right ..
  have hx' : a = x * (Int.gcd a b : Int) := by rw [Int.mul_comm]; exact hx
  have hy' : b = y * (Int.gcd a b : Int) := by rw [Int.mul_comm]; exact hy
  generalize hg : (Int.gcd a b : Int) = g at *
  have gne : g ≠ 0 := by omega
  have gg : -g ≠ 0 := by omega
  have key : ∀ z : Int, (z * g).fdiv g = z := fun z => Int.mul_fdiv_cancel z gne
  have key2 : ∀ z : Int, (z * g).fdiv (-g) = -z := fun z => by
    have : z * g = (-z) * (-g) := by rw [Int.neg_mul_neg]
    rw [this]; exact Int.mul_fdiv_cancel (-z) gg
  refine ⟨x, y, hx', hy', g0, ?_, ?_, ?_, ?_, ?_⟩
  · rw [hx']; exact key x
  · rw [hy']; exact key y
  · rw [hx']; exact key2 x
  · rw [hy']; exact key2 y
  · have h1 : Int.gcd a b = Int.gcd x y * g.natAbs := by
      conv => lhs; rw [hx', hy']
      exact Int.gcd_mul_right x g y
    have h2 : g.natAbs = Int.gcd a b := by omega
    rw [h2] at h1
    have h3 : 1 * Int.gcd a b = Int.gcd x y * Int.gcd a b := by omega
    exact (Nat.eq_of_mul_eq_mul_right g0 h3).symm
/-- what a ratio in lowest terms is -/
theorem nrm_is (a b : Int) (hb : b ≠ 0) : ∃ g : Int, g ≠ 0 ∧ a = (nrm a b).1 * g ∧ b = (nrm a b).2 * g ∧ 0 < (nrm a b).2 ∧ Int.gcd (nrm a b).1 (nrm a b).2 = 1 := by
  obtain ⟨x, y, h1, h2, g0, e1, e2, e3, e4, co⟩ := fdiv_gcd a b hb
  unfold nrm
  have g0' : (0 : Int) < Int.gcd a b := by omega
  by_cases h : b < 0
  · rw [if_pos h, e3, e4]
    refine ⟨-(Int.gcd a b : Int), by omega, by rw [Int.neg_mul_neg]; exact h1, by rw [Int.neg_mul_neg]; exact h2, ?_, ?_⟩
    · show 0 < -y
      have z : y * (Int.gcd a b : Int) < 0 := by omega
      have z2 : y < 0 := by
        rcases Int.lt_or_le y 0 with q | q
        · exact q
        · have := Int.mul_nonneg q (Int.le_of_lt g0'); omega
      exact Int.neg_pos_of_neg z2
    · show Int.gcd (-x) (-y) = 1
      rw [Int.neg_gcd, Int.gcd_neg]; exact co
  · rw [if_neg h, e1, e2]
    refine ⟨Int.gcd a b, by omega, h1, h2, ?_, co⟩
    show 0 < y
    have : 0 < y * (Int.gcd a b : Int) := by omega
    exact Int.pos_of_mul_pos_left this (by omega)
theorem natAbs_le_mul {x g : Int} (h : g ≠ 0) : x.natAbs ≤ (x * g).natAbs := by
  rw [Int.natAbs_mul]
  exact Nat.le_mul_of_pos_right _ (by omega)
theorem nrm_le1 (a b : Int) (hb : b ≠ 0) : (nrm a b).1.natAbs ≤ a.natAbs := by
  obtain ⟨g, g0, h1, _⟩ := nrm_is a b hb
  conv => rhs; rw [h1]
  exact natAbs_le_mul g0
theorem nrm_le2 (a b : Int) (hb : b ≠ 0) : (nrm a b).2.natAbs ≤ b.natAbs := by
  obtain ⟨g, g0, _, h1, _⟩ := nrm_is a b hb
  conv => rhs; rw [h1]
  exact natAbs_le_mul g0
theorem nrm_pos (a b : Int) (hb : b ≠ 0) : 0 < (nrm a b).2 := by
  obtain ⟨g, g0, _, _, h, _⟩ := nrm_is a b hb; exact h
theorem nrm_cop (a b : Int) (hb : b ≠ 0) : Int.gcd (nrm a b).1 (nrm a b).2 = 1 := by
  obtain ⟨g, g0, _, _, _, h⟩ := nrm_is a b hb; exact h
theorem nrm_zero {a b : Int} (hb : b ≠ 0) (h : (nrm a b).1 = 0) : nrm a b = (0, 1) := by
  have c := nrm_cop a b hb
  have p := nrm_pos a b hb
  rw [h, Int.gcd_zero_left] at c
  refine Prod.ext h ?_
  show (nrm a b).2 = 1
  omega
theorem nrm_bits {a b : Int} {n : Nat} (hb : b ≠ 0) (h1 : a.natAbs < 2 ^ n) (h2 : b.natAbs < 2 ^ n) : RB n (nrm a b) :=
  ⟨Nat.lt_of_le_of_lt (nrm_le1 a b hb) h1, Nat.lt_of_le_of_lt (nrm_le2 a b hb) h2, nrm_pos a b hb⟩
theorem mul_ne {a b : Int} (h1 : 0 < a) (h2 : 0 < b) : a * b ≠ 0 := by
  have := Int.mul_pos h1 h2; omega
theorem RB.sum {n m : Nat} {p q : Rt} (h : RB n p) (k : RB m q) : RB (n + m + 1) (rsum p q) :=
  nrm_bits (mul_ne h.pos k.pos) (add_bits (mul_bits h.n1 k.n2) (by rw [Nat.add_comm n m]; exact mul_bits k.n1 h.n2)) (Nat.lt_of_lt_of_le (mul_bits h.n2 k.n2) (Nat.pow_le_pow_right (by decide) (by omega)))
theorem RB.dif {n m : Nat} {p q : Rt} (h : RB n p) (k : RB m q) : RB (n + m + 1) (rdif p q) :=
  nrm_bits (mul_ne h.pos k.pos) (sub_bits (mul_bits h.n1 k.n2) (by rw [Nat.add_comm n m]; exact mul_bits k.n1 h.n2)) (Nat.lt_of_lt_of_le (mul_bits h.n2 k.n2) (Nat.pow_le_pow_right (by decide) (by omega)))
theorem RB.prod {n m : Nat} {p q : Rt} (h : RB n p) (k : RB m q) : RB (n + m) (rprod p q) :=
  nrm_bits (mul_ne h.pos k.pos) (mul_bits h.n1 k.n1) (mul_bits h.n2 k.n2)
theorem RB.quo {n m : Nat} {p q : Rt} (h : RB n p) (k : RB m q) (hq : q.1 ≠ 0) : RB (n + m) (rquo p q) :=
  nrm_bits (by intro z; rcases Int.mul_eq_zero.mp z with z | z; · have := h.pos; omega
               · exact hq z) (mul_bits h.n1 k.n2) (mul_bits h.n2 k.n1)
theorem RB.abs {n : Nat} {p : Rt} (h : RB n p) : RB n (rabs p) := ⟨by show ((p.1.natAbs : Int)).natAbs < _; rw [Int.natAbs_natCast]; exact h.n1, h.n2, h.pos⟩
theorem RB.zero : RB 1 (0, 1) := ⟨by decide, by decide, by decide⟩
theorem rdif_zero {p q : Rt} (hp : 0 < p.2) (hq : 0 < q.2) : rdif p q = (0, 1) ↔ (rdif p q).1 = 0 :=
  ⟨fun h => by rw [h], fun h => nrm_zero (mul_ne hp hq) h⟩
theorem rcomp_swap (p q : Rt) : rcomp q p = - rcomp p q := by unfold rcomp; omega
end G3
namespace G3
open PySem L2
/-! promises of the ratio defs -/
abbrev BIG : Nat := 4000
def spCommon : Sp3 := fun ws M Q => ∃ a b : Int, ws = [.int a, .int b] ∧ Q (.int (Int.gcd a b)) M
def spRat : Sp3 := fun ws M Q => ∃ a b : Int, ws = [.int a, .int b] ∧ b ≠ 0 ∧ b.natAbs < 2 ^ 8990 ∧ Q (vr (nrm a b)) M
def spWhole : Sp3 := fun ws M Q => ∃ a : Int, ws = [.int a] ∧ Q (vr (a, 1)) M
def spBin (f : Rt → Rt → Rt) : Sp3 := fun ws M Q => ∃ p q : Rt, ws = [vr p, vr q] ∧ RB BIG p ∧ RB BIG q ∧ Q (vr (f p q)) M
def spQuo : Sp3 := fun ws M Q => ∃ p q : Rt, ws = [vr p, vr q] ∧ RB BIG p ∧ RB BIG q ∧ q.1 ≠ 0 ∧ Q (vr (rquo p q)) M
def spComp : Sp3 := fun ws M Q => ∃ p q : Rt, ws = [vr p, vr q] ∧ RB BIG p ∧ RB BIG q ∧ Q (.int (rcomp p q)) M
def spOrd : Sp3 := fun ws M Q => ∃ p q : Rt, ws = [vr p, vr q] ∧ RB BIG p ∧ RB BIG q ∧ Q (.int (if rcomp p q = 0 then 0 else if 0 < rcomp p q then 1 else -1)) M
def spLess : Sp3 := fun ws M Q => ∃ p q : Rt, ws = [vr p, vr q] ∧ RB BIG p ∧ RB BIG q ∧ Q (.bl (decide (rcomp p q < 0))) M
def spSize : Sp3 := fun ws M Q => ∃ p : Rt, ws = [vr p] ∧ Q (vr (rabs p)) M
def btw (p lo hi : Rt) : Bool := if rcomp hi lo < 0 then (!decide (rcomp p hi < 0) && !decide (rcomp lo p < 0)) else (!decide (rcomp p lo < 0) && !decide (rcomp hi p < 0))
def spBtw : Sp3 := fun ws M Q => ∃ p lo hi : Rt, ws = [vr p, vr lo, vr hi] ∧ RB BIG p ∧ RB BIG lo ∧ RB BIG hi ∧ Q (.bl (btw p lo hi)) M
theorem cmw {i j : Int} {a b : Nat} (ha : i.natAbs < 2 ^ a) (hb : j.natAbs < 2 ^ b) (h0 : 0 < a) (h1 : 0 < b) (h : a + b ≤ 1000000) : CMul i j ∨ CMulW i j := .inr (wide_mul ha hb h0 h1 h)
theorem cml {i j : Int} (h : -(2 ^ 64) < i) (h2 : i < 2 ^ 64) : CMul i j ∨ CMulW i j := .inl (.inl ⟨h, h2⟩)
theorem cmr {i j : Int} (h : -(2 ^ 64) < j) (h2 : j < 2 ^ 64) : CMul i j ∨ CMulW i j := .inl (.inr ⟨h, h2⟩)
theorem cdv {i j : Int} {b : Nat} (h : j ≠ 0) (hb : j.natAbs < 2 ^ b) (h0 : 0 < b) (h9 : b ≤ 9000) : CDivV i j := ⟨h, Nat.lt_of_lt_of_le (PySem.Flt.log2_lt_of h0 hb) h9⟩
theorem gcd_step (a b : Nat) : Nat.gcd b (a % b) = Nat.gcd a b := by rw [Nat.gcd_comm b, ← Nat.gcd_rec, Nat.gcd_comm]
theorem gcd_bits {a b : Int} {n : Nat} (hb : b ≠ 0) (h : b.natAbs < 2 ^ n) : ((Int.gcd a b : Int)).natAbs < 2 ^ n := by
  rw [Int.natAbs_natCast]
  exact Nat.lt_of_le_of_lt (Nat.le_of_dvd (by omega) (Int.gcd_dvd_natAbs_right a b)) h
theorem gcd_ne {a b : Int} (hb : b ≠ 0) : (Int.gcd a b : Int) ≠ 0 := by
  have := Int.gcd_pos_of_ne_zero_right a hb; omega
theorem nrm_neg {a b : Int} (h : b < 0) : nrm a b = (a.fdiv (-(Int.gcd a b : Int)), b.fdiv (-(Int.gcd a b : Int))) := by unfold nrm; rw [if_pos h]
theorem nrm_nn {a b : Int} (h : ¬ b < 0) : nrm a b = (a.fdiv (Int.gcd a b), b.fdiv (Int.gcd a b)) := by unfold nrm; rw [if_neg h]
theorem big_mul {i j : Int} (ha : i.natAbs < 2 ^ BIG) (hb : j.natAbs < 2 ^ BIG) : (i * j).natAbs < 2 ^ 8990 := Nat.lt_of_lt_of_le (mul_bits ha hb) (Nat.pow_le_pow_right (by decide) (by decide))
end G3

set_option Elab.async false
set_option linter.all false
set_option maxRecDepth 100000
set_option maxHeartbeats 4000000
/-! spots, lines between them, in plain Lean; promises of the corner defs -/
namespace G3
open PySem L2 PySem.W
abbrev Spt := Rt × Rt
abbrev vsp (s : Spt) : VV := .tup [vr s.1, vr s.2]
def pk (s : Spt) : Bool → Rt
  | true => s.2
  | false => s.1
structure SB (n : Nat) (s : Spt) : Prop where
  x : RB n s.1
  y : RB n s.2
theorem SB.pk {n : Nat} {s : Spt} (h : SB n s) (k : Bool) : RB n (pk s k) := by
  cases k
  · exact h.x
  · exact h.y
theorem SB.mono {n m : Nat} {s : Spt} (h : SB n s) (l : n ≤ m) : SB m s := ⟨h.x.mono l, h.y.mono l⟩
/-- the longer way is the second one -/
def longB (a b : Spt) : Bool := decide (rcomp (rabs (rdif a.1 b.1)) (rabs (rdif a.2 b.2)) < 0)
def shareAt (k : Bool) (a b s : Spt) : Rt := if (rdif (pk b k) (pk a k)).1 = 0 then (0, 1) else rquo (rdif (pk s k) (pk a k)) (rdif (pk b k) (pk a k))
def share (a b s : Spt) : Rt := shareAt (longB a b) a b s
def onAt (k : Bool) (a b : Spt) (t : Rt) : Rt := rsum (pk a k) (rprod t (rdif (pk b k) (pk a k)))
def asideF (a b s : Spt) : Rt := rabs (rdif (pk s (!longB a b)) (onAt (!longB a b) a b (share a b s)))
def passF (a b s : Spt) (t : Int) : Bool := btw (pk s (longB a b)) (pk a (longB a b)) (pk b (longB a b)) && !decide (rcomp (t, 1) (asideF a b s) < 0)
/-- the bits of spots that the corner defs take -/
abbrev CB : Nat := 400
def vB (k : Bool) : Int := if k then 1 else 0
theorem RB.big {n : Nat} {p : Rt} (h : RB n p) (l : n ≤ BIG := by decide) : RB BIG p := h.mono l
theorem RB.wh {t : Int} {n : Nat} (h : t.natAbs < 2 ^ n) (h0 : 0 < n) : RB n (t, 1) := ⟨h, Nat.one_lt_two_pow (by omega), Int.one_pos⟩
theorem shareAt_bits {k : Bool} {a b s : Spt} (ha : SB CB a) (hb : SB CB b) (hs : SB CB s) : RB 1602 (shareAt k a b s) := by
  unfold shareAt
  split
  · exact RB.zero.mono (by decide)
  · rename_i h
    exact RB.quo (n := 801) (m := 801) ((hs.pk k).dif (ha.pk k)) ((hb.pk k).dif (ha.pk k)) h
theorem onAt_bits {k : Bool} {a b : Spt} {t : Rt} (ha : SB CB a) (hb : SB CB b) (ht : RB 1602 t) : RB 2804 (onAt k a b t) :=
  (ha.pk k).sum (m := 2403) (ht.prod (m := 801) ((hb.pk k).dif (ha.pk k)))
theorem aside_bits {a b s : Spt} (ha : SB CB a) (hb : SB CB b) (hs : SB CB s) : RB 3205 (asideF a b s) :=
  ((hs.pk _).dif (m := 2804) (onAt_bits ha hb (shareAt_bits ha hb hs))).abs
def spLong : Sp3 := fun ws M Q => ∃ a b : Spt, ws = [vsp a, vsp b] ∧ SB CB a ∧ SB CB b ∧ Q (.int (vB (longB a b))) M
def spShare : Sp3 := fun ws M Q => ∃ a b s : Spt, ws = [vsp a, vsp b, vsp s] ∧ SB CB a ∧ SB CB b ∧ SB CB s ∧ Q (vr (share a b s)) M
def spAside : Sp3 := fun ws M Q => ∃ a b s : Spt, ws = [vsp a, vsp b, vsp s] ∧ SB CB a ∧ SB CB b ∧ SB CB s ∧ Q (vr (asideF a b s)) M
def spPasses : Sp3 := fun ws M Q => ∃ (a b s : Spt) (t : Int), ws = [vsp a, vsp b, vsp s, .int t] ∧ SB CB a ∧ SB CB b ∧ SB CB s ∧ t.natAbs < 2 ^ 3205 ∧ Q (.bl (passF a b s t)) M
/-- the spots between -/
def midS (row : List Spt) (i j : Nat) : List Spt := (row.drop (i + 1)).take (j - (i + 1))
def mayF (row : List Spt) (i j : Nat) (t : Int) : Bool := (midS row i j).all fun s => passF (row.getD i ((0, 1), (0, 1))) (row.getD j ((0, 1), (0, 1))) s t
def spMay : Sp3 := fun ws M Q => ∃ (w : VV) (row : List Spt) (i j : Nat) (t : Int), ws = [w, .int i, .int j, .int t] ∧ Lst M w (row.map vsp) ∧ (∀ s ∈ row, SB CB s) ∧ row.length ≤ 1000 ∧ i < row.length ∧ j < row.length ∧ i < j ∧ t.natAbs < 2 ^ 3205 ∧ Q (.bl (mayF row i j t)) M
theorem dwRt {M : Mp} (p : Rt) : DW M (vr p) (Datum.toD p) := .tup (.cons (.int _) (.cons (.int _) .nil))
theorem shRt (p : Rt) : SeqAt.shaped (Datum.toD p) = true := by rfl
theorem o2_eqRt {X : Cx} {M : Mp} {Q : VQ} {p q : Rt} (hu : X.A.units + 64 < cLine) (h : Q (.bl (decide (p = q))) M) : O2 X (compareOp .Eq) (vr p) (vr q) M Q :=
  o2_eqD hu (dwRt p) (dwRt q) (shRt p) (shRt q) (by rw [Datum.eqv]; exact h)
theorem atI_pk (k : Bool) (s : Spt) : atI [vr s.1, vr s.2] (vB k) = some (vr (pk s k)) := by cases k <;> rfl
theorem atI_npk (k : Bool) (s : Spt) : atI [vr s.1, vr s.2] (1 - vB k) = some (vr (pk s (!k))) := by cases k <;> rfl
/-- a tuple that stands in the fragment -/
theorem rv_tupK {K : PySem.W.Frag} {a : Addr} {o : Obj} {its : Array Value} {n : Nat} {vs : List V} {ws : List VV} (hk : K.lookup a = some o) (hc : o.cls = .type "tuple") (hd : o.data = .seq its n) (hs : its.size ≤ sizeLine) (hv : Vals vs its.toList) (hr : ∀ H, Rvs K H vs ws) (H : Hp) : Rv K H (.ref a) (.tup ws) :=
  .tup (.inr ⟨o, its, n, hk, hc, hd, hs, hv⟩) (hr H)
end G3

set_option Elab.async false
set_option linter.all false
set_option maxRecDepth 100000
set_option maxHeartbeats 4000000
/-! L3: the law's bag -/
namespace G3
open PySem PySem.Spec L2
section
variable {X : Cx} {σ : St3} {M : Mp} {Q : VQ} {D : En}
theorem wss_open {sts : List Stmt} {b : Addr} (hb : M b = some .bag) (h : ∀ c sl sd cells, BagOk sl sd cells → M c = none → c ≠ b → (∀ a, M a = some .bag → a = b) → WSs X sts σ (updM (updM M b (.lst [.ref c, .int sl, .int sd])) c (.lst (cells.map VV.int))) D) : WSs X sts σ M D := fun σ' H s m => by
  obtain ⟨c, sl, sd, cells, h1, h2, h3, m'⟩ := m.opn hb
  exact h c sl sd cells h1 h2 h3 (m b _ hb).2 σ' H s m'
theorem we_close {e : Expr} (h : WE X e σ M fun u M' => ∃ M0 b c sl sd cells, M' b = some (.lst [.ref c, .int sl, .int sd]) ∧ M' c = some (.lst (cells.map VV.int)) ∧ BagOk sl sd cells ∧ (∀ a, M' a ≠ some .bag) ∧ M0 b = some .bag ∧ M0 c = none ∧ (∀ a o, M0 a = some o → a ≠ b → M' a = some o) ∧ Q u M0) : WE X e σ M Q := fun σ' H s m =>
  (h σ' H s m).mono fun _ _ ⟨u, M', t, m', r, M0, b, c, sl, sd, cells, h1, h2, h3, h4, h5, h6, h7, q⟩ => ⟨u, M0, t, m'.cls h1 h2 h3 h4 h5 h6 h7, r, q⟩
end
/-! == of data with a Lean type -/
section
open PySem.W
variable {X : Cx} {M : Mp} {Q : VQ} {α : Type} [DecidableEq α] [Datum α]
theorem o2_eqT {u v : VV} {x y : α} (hu : X.A.units + Datum.depth α < cLine) (h1 : DW M u (Datum.toD x)) (h2 : DW M v (Datum.toD y)) (q : Q (.bl (decide (x = y))) M) : O2 X (compareOp .Eq) u v M Q := fun H v1 v2 m r1 r2 pins s σ u1 u2 I z1 z2 => by
  obtain ⟨as, ra⟩ := Dp.reads I _ _ _ (h1.dp m _ _ _ r1) z1
  obtain ⟨bs, rb⟩ := Dp.reads I _ _ _ (h2.dp m _ _ _ r2) z2
  exact eq_datum (x := x) (y := y) ⟨as, ra⟩ ⟨bs, rb⟩ hu ⟨.bl _, H, I, rfl, .mk m (.bl _) q⟩
theorem o2_neT {u v : VV} {x y : α} (hu : X.A.units + Datum.depth α < cLine) (h1 : DW M u (Datum.toD x)) (h2 : DW M v (Datum.toD y)) (q : Q (.bl (!decide (x = y))) M) : O2 X (compareOp .NotEq) u v M Q := fun H v1 v2 m r1 r2 pins s σ u1 u2 I z1 z2 => by
  obtain ⟨as, ra⟩ := Dp.reads I _ _ _ (h1.dp m _ _ _ r1) z1
  obtain ⟨bs, rb⟩ := Dp.reads I _ _ _ (h2.dp m _ _ _ r2) z2
  exact ne_datum (x := x) (y := y) ⟨as, ra⟩ ⟨bs, rb⟩ hu ⟨.bl _, H, I, rfl, .mk m (.bl _) (by rw [decide_not]; exact q)⟩
theorem dws_map {v : α → VV} (h : ∀ x, DW M (v x) (Datum.toD x)) : ∀ xs : List α, DWs M (xs.map v) (xs.map Datum.toD)
  | [] => .nil
  | x :: xs => .cons (h x) (dws_map h xs)
theorem dw_lst {v : α → VV} {u : VV} {xs : List α} (h : ∀ x, DW M (v x) (Datum.toD x)) (hl : Lst M u (xs.map v)) : DW M u (Datum.toD xs) := .lst hl (dws_map h xs)
theorem dw_vsp (s : Spt) : DW M (vsp s) (Datum.toD s) := .tup (.cons (dwRt _) (.cons (dwRt _) .nil))
end
theorem SimM.uniq {K : PySem.W.Frag} {M : Mp} {H : Hp} (m : SimM K M H) {a b : Addr} (h : M a = some .bag) (k : M b = some .bag) : a = b := (m b _ k).2 a h
/-! promises of the law's own defs -/
def NoBag (M : Mp) : Prop := ∀ a, M a ≠ some .bag
def spBag : Sp3 := fun ws M Q => ∃ (w : VV) (ns : List Int), ws = [w] ∧ Lst M w (ns.map .int) ∧ NoBag M ∧ ∀ b, M b = none → Q (.ref b) (updM M b .bag)
def spDraw : Sp3 := fun ws M Q => ∃ (b : Addr) (many : Int), ws = [.ref b, .int many] ∧ M b = some .bag ∧ 0 < many ∧ many < 1073741824 ∧ ∀ r : Int, 0 ≤ r → r < many → Q (.int r) M
def spAny : Sp3 := fun ws M Q => ∃ (b : Addr) (w : VV) (xs : List VV), ws = [.ref b, w] ∧ M b = some .bag ∧ Lst M w xs ∧ 0 < xs.length ∧ xs.length < 1000000 ∧ ∀ x, x ∈ xs → Q x M
def spRatio : Sp3 := fun ws M Q => ∃ (b : Addr) (reach : Int), ws = [.ref b, .int reach] ∧ M b = some .bag ∧ 0 ≤ reach ∧ reach ≤ 100 ∧ ∀ x : Rt, RB 14 x → Q (vr x) M
def spSpot : Sp3 := fun ws M Q => ∃ (b : Addr) (reach : Int), ws = [.ref b, .int reach] ∧ M b = some .bag ∧ 0 ≤ reach ∧ reach ≤ 100 ∧ ∀ s : Spt, SB 14 s → Q (vsp s) M
def spSameB : Sp3 := fun ws M Q => ∃ (x y : Bool), ws = [.bl x, .bl y] ∧ Q (.bl (decide (x = y))) M
def spOn : Sp3 := fun ws M Q => ∃ (a b : Spt) (t : Rt), ws = [vsp a, vsp b, vr t] ∧ SB CB a ∧ SB CB b ∧ RB 1602 t ∧ Q (vsp (onAt false a b t, onAt true a b t)) M
def spCorners : Sp3 := fun ws M Q => ∃ (b : Addr) (many : Int), ws = [.ref b, .int many] ∧ M b = some .bag ∧ 0 < many ∧ many ≤ 10 ∧ ∀ (p : Addr) (row : List Spt), M p = none → 2 ≤ row.length → row.length ≤ 11 → (∀ s ∈ row, SB CB s) → Q (.ref p) (updM M p (.lst (row.map vsp)))
end G3

set_option Elab.async false
set_option linter.all false
set_option maxRecDepth 100000
set_option maxHeartbeats 4000000
/-! L3: further rules -/
namespace G3
open PySem PySem.Spec L2
section
variable {X : Cx} {a b c e tg : Expr} {es : List Expr} {σ : St3} {M : Mp} {Q : VQ} {D : En} {pos : Pos} {x : Str} {i : Nat}
variable {P : Program} {w : World} {K : PySem.W.Frag} {mg : Str → Option Value} {base : Heap} {CX : CXT} {N : List Str} {sc : Scope} {fl : Bool} {k : Nat}
/-- xs[::-1] of a list -/
theorem we_rev {kk : Nat} {p1 p2 p3 : Pos} (h : WE X e σ M fun u M1 => ∃ ws, Lst M1 u ws ∧ ∀ p, M1 p = none → Q (.ref p) (updM M1 p (.lst ws.reverse))) : WE X (.Subscript e (.Slice none none (some (.UnaryOp .USub (.Constant (.int 1) kk p1) p2)) p3) pos) σ M Q := fun σ' H s m =>
  wE.of (pe_revL wE.pe) (h.run s m fun v H1 u M1 t1 m1 r1 s1 ⟨ws, hl, q⟩ => by
    obtain ⟨ad, vs, rfl, h1, h2⟩ := hl.v m1 r1
    exact ⟨ad, vs, rfl, h1, fun p hp => ⟨.ref p, _, t1.trans (TM.fresh hp), m1.putL (TM.fresh hp) (.inl hp) (ws := ws.reverse) (by
      have rev : ∀ {xs : List V} {us : List VV}, Rvs X.K H1 xs us → Rvs X.K H1 xs.reverse us.reverse := fun {xs us} h => by
        induction xs generalizing us with
        | nil => cases h; exact .nil
        | cons x xs ih => cases h with | cons a b => rw [List.reverse_cons, List.reverse_cons]; exact (ih b).append (.cons a .nil)
      exact rev h2), .ref p, q p (m1.no hp)⟩⟩)
/-- a, b, .. = a list of that length -/
theorem wg_lst (B : Bd P w K mg base CX N sc fl k X) {R : St3 → Mp → Prop} {u : VV} {us : List VV} {kk : Nat} (hl : Lst M u us) (q : WGs X es us σ M R) (hn : (assignEach es X.env).length = us.length := by rfl) (hst : (assignEach es X.env).findIdx? (·.1) = none := by rfl) : WG X (.Tuple es kk pos) u σ M R := fun σ' H v s m r => by
  obtain ⟨ad, vs, rfl, h1, h2⟩ := hl.v m r
  exact wG.of (pg_lst B.calm wGs.pgs rfl hst) ⟨ad, vs, rfl, h1, by rw [h2.length]; exact hn.symm, q σ' H vs s m h2⟩
/-- a comprehension over a tuple -/
theorem lcT_read (B : Bd P w K mg base CX N sc fl k X) {elt : Expr} {scope : Scope} (sc' : Scope) (hs' : relabel scope X.env = sc') (h : WE X e σ M fun u M1 => ∃ ws, u = .tup ws ∧ Comp P w K mg base CX N sc' k elt i Q ws.length (fun j z => ws[j]? = some z) (fun _ => True) σ M1)
    {σ' : St} {H : Hp} (s : Slots X.K H σ' σ) (m : SimM X.K M H) {Qv : VK} (hQ : ∀ v H', PoE X.K H Q v H' → Qv v H') : tLc (iTup X.K (wE X e)) (gName i) tYes (teB X scope elt) [i] σ' H Qv := by
  refine h.run s m fun v H1 u M1 t1 m1 r1 s1 ⟨ws, hu, q1⟩ => ?_
  subst hu
  obtain ⟨ad, vs, rfl, h1, h2⟩ := r1.tupv
  refine ⟨ad, rfl, ⟨vs, h1⟩, fun D hD => ?_⟩
  obtain ⟨Pv, p0, ph, ps, pe⟩ := q1 D (m1.no hD)
  have tD : TM H1 (upd H1 D (.lst [])) := TM.fresh hD
  refine ⟨fun j n H2 => n = ws.length - j ∧ j ≤ ws.length ∧ ∃ M2, TM H1 H2 ∧ SimM X.K M2 H2 ∧ Pv j M2, ⟨_, rfl, Nat.zero_le _, _, tD, m1.putL tD (.inl hD) .nil, p0⟩, ?_⟩
  rintro j n H2 ⟨rfl, hj, M2, t2, m2, p2⟩
  have h3 := SqT.mono t2 h1
  have h4 := Rvs.mono t2 _ _ h2
  have hlen := h4.length
  by_cases hlt : j < ws.length
  · obtain ⟨y, hy, ry⟩ := h4.get (i := j) (w := ws[j]) (by simp [hlt])
    refine .inr ⟨⟨vs, y, h3, hy⟩, fun H' => ∃ M', TM H1 H' ∧ SimM X.K M' H' ∧ Pv (j + 1) M', fun H' z => ⟨_, by omega, rfl, hlt, z⟩, fun y' H' hy' => ?_⟩
    obtain ⟨rfl, hy'⟩ := hy'
    have ey := hy' vs h3
    rw [hy] at ey
    cases ey
    refine ⟨wipe1, ?_⟩
    show ∀ s0 H0 C cl fp, wE (X.blk s0 H0 scope (compEnvC scope cl C X.env) fp) elt _ _ _
    intro s0 H0 C cl fp
    have Y := B.blk s0 H0 scope C cl fp
    rw [hs'] at Y
    have z := ps _ Y j ws[j] M2 hlt (by simp [hlt]) p2
    have hset : (wipe σ' [i]).set i (some y) = σ'.set i (some y) := by
      show (σ'.set i none).set i (some y) = _
      rw [List.set_set]
    refine (z _ H' (by rw [hset]; exact (s1.mono t2).set i ry) m2).mono fun y3 H3 ⟨w3, M3, t3, m3, r3, acc, e3, l3, p3⟩ => ?_
    obtain ⟨va, h5, h6⟩ := m3 _ _ e3
    exact ⟨va, h5, by rw [h6.length]; exact l3, _, (t2.trans t3).trans (TM.lst h5), m3.putL (TM.lst h5) (.inr ⟨_, e3⟩) (h6.append (.cons r3 .nil)), p3⟩
  · refine .inl ⟨⟨vs, h3, by omega⟩, hQ _ _ ⟨.ref D, M2, t1.trans t2, m2, .ref D, pe M2 ?_⟩⟩
    have : j = ws.length := by omega
    subst this; exact p2
section
variable {elt : Expr} {scope : Scope} {px : Pos}
theorem we_lcTup (B : Bd P w K mg base CX N sc fl k X) (hi : At N i x) (hok : blkC N sc scope [(x, i)] = true) (hx : (scBlk scope sc).names.lookup x = some .local)
    (h : WE X e σ M fun u M1 => ∃ ws, u = .tup ws ∧ Comp P w K mg base CX N (scBlk scope sc) k elt i Q ws.length (fun j z => ws[j]? = some z) (fun _ => True) σ M1)
    (hs : ∀ x, foldedSetIterable e X.env x = pure x := by intro _; rfl) : WE X (.ListComp elt [⟨.Name x px, e, [], 0⟩] scope pos) σ M Q := fun σ' H s m =>
  wE.of (pe_lc (own := [(x, i)]) (tt := tYes) (g := gName i) (te := teB X scope elt) B.calm (by rw [B.eN]; exact B.nd) (pi_tup wE.pe) (by rw [B.eN, B.esc]; exact blkOk_by hok)
    (B.pgB hi hx) (fun _ _ _ _ _ => pts_nil) (fun s0 H0 C cl fp => ⟨fun pins s σ H R I h => h s0 H0 C cl fp pins s I⟩) hs) (lcT_read B _ (B.rel scope) h s m fun _ _ z => z)
theorem ws_setLcTup (B : Bd P w K mg base CX N sc fl k X) {spos : Pos} {y : Str} {py : Pos} {iy : Nat} (hiy : At N iy y) (hyl : sc.names.lookup y = some .local) (hsw : swapsWith (.ListComp elt [⟨.Name x px, e, [], 0⟩] scope pos) (some (.Name y py)) spos.line (cenv sc) = pure true) (hi : At N i x) (hok : blkC N sc scope [(x, i)] = true) (hx : (scBlk scope sc).names.lookup x = some .local)
    (h : WE X e σ M fun u M1 => ∃ ws, u = .tup ws ∧ Comp P w K mg base CX N (scBlk scope sc) k elt i (fun u M1 => D.nx (σ.set iy (some u)) M1) ws.length (fun j z => ws[j]? = some z) (fun _ => True) σ M1)
    (hs : ∀ x, foldedSetIterable e X.env x = pure x := by intro _; rfl) : WS X (.Assign [.Name y py] (.ListComp elt [⟨.Name x px, e, [], 0⟩] scope pos) spos) σ M D := fun σ' H s m =>
  wS.of (ps_setLc (i := iy) (own := [(x, i)]) (tt := tYes) (g := gName i) (te := teB X scope elt) B.calm (by rw [B.eN]; exact B.nd) (by rw [B.eN]; exact hiy.get) (by rw [B.esc]; exact hyl) (by rw [swWith_of (env' := cenv sc) (by rw [B.esc]; rfl)]; exact hsw) (pi_tup wE.pe) (by rw [B.eN, B.esc]; exact blkOk_by hok)
    (B.pgB hi hx) (fun _ _ _ _ _ => pts_nil) (fun s0 H0 C cl fp => ⟨fun pins s σ H R I h => h s0 H0 C cl fp pins s I⟩) hs) (lcT_read B _ (B.rel scope) h s m fun v H' ⟨u, M', t, m', r, q⟩ => ⟨_, M', t, (s.mono t).set iy r, m', q⟩)
end
theorem comp_pureT {α : Type} {elt : Expr} {sc' : Scope} {xs : List α} {v f : α → VV} (hz : xs.length ≤ sizeLine)
    (he : ∀ Y : Cx, Bd P w K mg base CX N sc' false k Y → ∀ (j : Nat) (z : α) M', xs[j]? = some z → LeM M M' → WE Y elt (σ.set i (some (v z))) M' fun y M2 => y = f z ∧ LeM M' M2)
    (q : ∀ D, M D = none → Q (.ref D) (updM M D (.lst (xs.map f)))) : Comp P w K mg base CX N sc' k elt i (Fgt Q) (xs.map v).length (fun j z => (xs.map v)[j]? = some z) (fun _ => True) σ M := fun D hD => by
  obtain ⟨Pv, p0, _, ps, pe⟩ := comp_pure (u := .seq (xs.map v)) (.seq _) hz he q D hD
  exact ⟨Pv, p0, fun _ _ _ _ => trivial, ps, pe⟩
end
/-! ### values alike as data, to a depth -/
inductive DE (M : Mp) : Nat → VV → VV → Prop
  | non (n) : DE M n .non .non
  | bl (n b) : DE M n (.bl b) (.bl b)
  | int (n i) : DE M n (.int i) (.int i)
  | str (n x) : DE M n (.str x) (.str x)
  | lst {n u v us vs} : Lst M u us → Lst M v vs → us.length = vs.length → us.length ≤ 100000 → (∀ (j : Nat) x y, us[j]? = some x → vs[j]? = some y → DE M n x y) → DE M (n + 1) u v
  | tup {n us vs} : us.length = vs.length → us.length ≤ 100000 → (∀ (j : Nat) x y, us[j]? = some x → vs[j]? = some y → DE M n x y) → DE M (n + 1) (.tup us) (.tup vs)
theorem DE.le {M M' : Mp} (l : LeM M M') : ∀ {n : Nat} {u v : VV}, DE M n u v → DE M' n u v := fun {n u v} h => by
  induction h with
  | non n => exact .non n
  | bl n b => exact .bl n b
  | int n b => exact .int n b
  | str n b => exact .str n b
  | lst h1 h2 h3 h4 _ ih => exact .lst (h1.le l) (h2.le l) h3 h4 ih
  | tup h3 h4 _ ih => exact .tup h3 h4 ih
theorem DE.rt {M : Mp} (p : Rt) (n : Nat) : DE M (n + 1) (vr p) (vr p) := .tup rfl (by show 2 ≤ 100000; decide) fun j x y h1 h2 => by
  rw [h1] at h2; cases h2
  match j with
  | 0 => cases h1; exact .int _ _
  | 1 => cases h1; exact .int _ _
  | j + 2 => cases h1
theorem DE.spt {M : Mp} (s : Spt) (n : Nat) : DE M (n + 2) (vsp s) (vsp s) := .tup rfl (by show 2 ≤ 100000; decide) fun j x y h1 h2 => by
  rw [h1] at h2; cases h2
  match j with
  | 0 => cases h1; exact .rt _ _
  | 1 => cases h1; exact .rt _ _
  | j + 2 => cases h1
theorem DE.map {M : Mp} {α : Type} {f : α → VV} {n : Nat} {xs : List α} {u v : VV} (hu : Lst M u (xs.map f)) (hv : Lst M v (xs.map f)) (hl : xs.length ≤ 100000) (h : ∀ x ∈ xs, DE M n (f x) (f x)) : DE M (n + 1) u v :=
  .lst hu hv rfl (by rw [List.length_map]; exact hl) fun j x y h1 h2 => by
    rw [h1] at h2; cases h2
    obtain ⟨z, hz, rfl⟩ := List.mem_map.mp (List.mem_of_getElem? h1)
    exact h z hz
def spIsInt : Sp3 := fun ws M Q => ∃ i : Int, ws = [.int i] ∧ Q (.bl true) M
def spSame (n : Nat) : Sp3 := fun ws M Q => ∃ u v, ws = [u, v] ∧ DE M n u v ∧ Q (.bl true) M
end G3

set_option Elab.async false
set_option linter.all false
set_option maxRecDepth 100000
set_option maxHeartbeats 4000000
/-! L3: keywords and defaults, reversed ranges, more of lists, comprehensions with a test -/
namespace G3
open PySem PySem.Spec L2
/-! ### calls with keywords, with defaults -/
/-- the def keeps sp, however it is called -/
def Ev.fn (E : Ev) (k : Nat) (x : Str) (ps : List Str) (sp : Sp3) : Prop := ∃ f fd, E.mg x = some (.ref f) ∧ PySem.W.keepIn E.K (.ref f) = true ∧ FnOk E.P E.w E.K E.mg E.base E.CX k f fd ps (toSp E.K sp) ∧ ∃ oc od osl, E.K.lookup f = some ⟨oc, od, .func fd, osl⟩
/-- n values and the keywords ks bind its parameters -/
def Ev.bnd (E : Ev) (x : Str) (ps : List Str) (n : Nat) (ks : List Str) : Prop := ∃ f fd, E.mg x = some (.ref f) ∧ (∃ oc od osl, E.K.lookup f = some ⟨oc, od, .func fd, osl⟩) ∧ ∀ (s : Shared) (us ws : List Value), E.K.In s.heap → us.length = n → ws.length = ks.length → BindsTo s fd ⟨us, ks.zip ws⟩ (ps.zip (us ++ ws))
/-- the written values and the defaults dws bind its parameters -/
def Ev.dfl (E : Ev) (x : Str) (ps : List Str) (dws : List VV) : Prop := ∃ f fd ds dvs, E.mg x = some (.ref f) ∧ (∃ oc od osl, E.K.lookup f = some ⟨oc, od, .func fd, osl⟩) ∧ Vals dvs ds ∧ (∀ H, Rvs E.K H dvs dws) ∧ Binds E.K fd ps ds
/-- a def whose keyword-only parameters have defaults -/
def TxK (E : Ev) (x : Str) (st : Stmt) (kws : List (Str × V)) : Prop := ∃ f fd, FunD E.K x x (defArgs st) (defBody st) (defScope st) [] kws f fd ∧ E.mg x = some (.ref f)
theorem fn_of3 {E : Ev} {x : Str} {st : Stmt} {f : Addr} {fd : FuncData} {ps : List Str} {dvs : List V} {kws : List (Str × V)} (F : FunD E.K x x (defArgs st) (defBody st) (defScope st) dvs kws f fd) (hmg : E.mg x = some (.ref f)) (N : List Str) {k : Nat} {sp : Sp3} (S : FnScope N ps (defScope st)) (len : ∀ ws M Q, sp ws M Q → ws.length = ps.length)
    (body : ∀ X : Cx, E.bd N (defScope st) true k X → ∀ ws M Q, sp ws M Q → WSs X (defBody st) (ws.map some ++ List.replicate (N.length - ws.length) none) M
      { nx := fun _ M' => ∃ M0, LeM M0 M' ∧ Q .non M0, rt := fun u M' => ∃ M0, LeM M0 M' ∧ Q u M0 }) : E.fn (k + 1) x ps sp := by
  obtain ⟨oc, od, dV, kV, doc, pm, an, cdv, ct, osl, rfl, lk, hcd, _, _⟩ := F.ex
  refine ⟨f, _, hmg, F.kp, fn_of lk hcd S (fun vs H Q E ⟨ws, M, Q3, _, r, h, _⟩ => by rw [r.length]; exact len ws M Q3 h) fun A outer s H vs Q E' hr ⟨ws, M, Q3, m, r, h, hq⟩ => ?_, oc, od, osl, lk⟩
  have B : E.bd N (defScope st) true k (cxOf E.CX E.P E.w E.K E.mg E.base N x (defScope st) f cdv A outer s H E').nox :=
    ⟨rfl, rfl, rfl, rfl, rfl, rfl, rfl, rfl, hr, E.hp, PassesOwn.never, S.nd, fun _ _ => rfl⟩
  have b := body _ B ws M Q3 h (L2.start N vs) H (Slots.start r N) m
  refine ⟨wSs _ (defBody st), wSs.pss.nox, b.mono ?_ ?_ ?_ ?_⟩
  · rintro σ' H' ⟨_, M', t, _, m', M0, l, q⟩
    exact hq _ _ _ _ q t (m'.sub l) .non
  · rintro v H' ⟨u, M', t, m', rv, M0, l, q⟩
    exact hq _ _ _ _ q t (m'.sub l) rv
  · rintro σ' H' ⟨_, _, _, _, _, q⟩; exact q.elim
  · rintro σ' H' ⟨_, _, _, _, _, q⟩; exact q.elim
theorem TxK.fn {E : Ev} {x : Str} {st : Stmt} {ps : List Str} {kws : List (Str × V)} (T : TxK E x st kws) (N : List Str) {k : Nat} {sp : Sp3} (S : FnScope N ps (defScope st)) (len : ∀ ws M Q, sp ws M Q → ws.length = ps.length)
    (body : ∀ X : Cx, E.bd N (defScope st) true k X → ∀ ws M Q, sp ws M Q → WSs X (defBody st) (ws.map some ++ List.replicate (N.length - ws.length) none) M
      { nx := fun _ M' => ∃ M0, LeM M0 M' ∧ Q .non M0, rt := fun u M' => ∃ M0, LeM M0 M' ∧ Q u M0 }) : E.fn (k + 1) x ps sp := by
  obtain ⟨f, fd, F, hm⟩ := T
  exact fn_of3 F hm N S len body
theorem FunD.there {K : PySem.W.Frag} {x qual : Str} {params : Arguments} {body : List Stmt} {scope : Scope} {dvs : List V} {kws : List (Str × V)} {f : Addr} {fd : FuncData} (F : FunD K x qual params body scope dvs kws f fd) : ∃ oc od osl, K.lookup f = some ⟨oc, od, .func fd, osl⟩ := by
  obtain ⟨oc, od, dV, kV, doc, pm, an, cdv, ct, osl, rfl, lk, _⟩ := F.ex
  exact ⟨oc, od, osl, lk⟩
/-- every keyword-only parameter is named -/
theorem TxK.bnd {E : Ev} {x : Str} {st : Stmt} {ps : List Str} {kws : List (Str × V)} (T : TxK E x st kws) (n : Nat) (ks : List Str) (h : ∀ (kV doc pm : Value) (an : Option Addr) (cdv ct : Value) (us ws : List Value), us.length = n → ws.length = ks.length →
    bindArgs (PySem.W.fnOf x x (defArgs st) (defBody st) (defScope st) .none kV doc pm an cdv ct) ⟨us, ks.zip ws⟩ = pure (ps.zip (us ++ ws))) : E.bnd x ps n ks := by
  obtain ⟨f, fd, F, hm⟩ := T
  refine ⟨f, fd, hm, FunD.there F, fun s us ws _ l1 l2 => ?_⟩
  obtain ⟨oc, od, dV, kV, doc, pm, an, cdv, ct, osl, rfl, lk, _, hD, _⟩ := F.ex
  rcases hD with ⟨_, rfl⟩ | ⟨e, _⟩
  · exact .of_eq (h kV doc pm an cdv ct us ws l1 l2)
  · exact absurd rfl e
theorem TxK.dfl {E : Ev} {x : Str} {st : Stmt} {ps : List Str} {kws : List (Str × V)} (T : TxK E x st kws) (n : Nat) {dws : List VV} (hk : kws ≠ []) (hn : n + kws.length = ps.length) (hd : ∀ H, Rvs E.K H (kws.map (·.2)) dws)
    (h : ∀ (D : Addr) (doc pm : Value) (an : Option Addr) (cdv ct : Value) (us ks : List Value), us.length = n → ks.length = kws.length →
      KwChain D ((kws.map (·.1)).zip ks) (bindArgs (PySem.W.fnOf x x (defArgs st) (defBody st) (defScope st) .none (.ref D) doc pm an cdv ct) ⟨us, []⟩) (ps.zip (us ++ ks))) : E.dfl x ps dws := by
  obtain ⟨f, fd, F, hm⟩ := T
  obtain ⟨ds, hv, hb⟩ := FunD.binds0 F n hk hn h
  exact ⟨f, fd, ds, _, hm, FunD.there F, hv, hd, hb⟩
section
variable {X : Cx} {E : Ev} {a b c e tg : Expr} {es : List Expr} {σ : St3} {M : Mp} {Q : VQ} {D : En} {pos : Pos} {x : Str} {i : Nat} {N : List Str} {sc : Scope} {fl : Bool} {k k' : Nat} {ps ks : List Str} {sp : Sp3}
def wK (X : Cx) (kws : List Keyword) : TA := fun σ H Q => ∀ (pos : Pos) pins s, Inv X pins σ H s → wpAny (model X.prog X.w) X.A (evalAll ((backToKw pos (keywordEach kws X.env)).map (·.2))) (AP X pins σ Q) X.xe s
theorem wK.pk {kws : List Keyword} : PK X kws (wK X kws) := ⟨fun po pins s σ H Q I h => h po pins s I⟩
theorem wK.of {kws : List Keyword} {t σ H Q} (p : PK X kws t) (h : t σ H Q) : wK X kws σ H Q := fun po pins s I => p.run po pins s σ H Q I h
def WK (X : Cx) (kws : List Keyword) (σ : St3) (M : Mp) (Q : List VV → Mp → Prop) : Prop := ∀ σ' H, Slots X.K H σ' σ → SimM X.K M H → wK X kws σ' H (PoA X.K H Q)
theorem wk_nil {A : List VV → Mp → Prop} (q : A [] M) : WK X [] σ M A := fun σ' H s m => wK.of pk_nil ⟨[], M, TM.refl, m, .nil, q⟩
theorem wk_cons {A : List VV → Mp → Prop} {nm : Option Str} {kpos : Pos} {kws : List Keyword} (h : WE X e σ M fun u M1 => WK X kws σ M1 fun us M2 => A (u :: us) M2) : WK X (⟨nm, e, kpos⟩ :: kws) σ M A := fun σ' H s m =>
  wK.of (pk_cons wE.pe wK.pk) (h.run s m fun v H1 u M1 t1 m1 r1 s1 q1 po pins st I => thn (q1 σ' H1 s1 m1 po pins st I) fun _ _ z => AP.mono z fun vs H2 ⟨us, M2, t2, m2, r2, q2⟩ => ⟨u :: us, M2, t1.trans t2, m2, .cons (Rv.mono t2 _ _ r1) r2, q2⟩)
theorem we_callN {p : Pos} {kws : List Keyword} {n : Nat} (B : E.bd N sc fl k X) (F : E.fn k' x ps sp) (G : E.bnd x ps n ks) (hk : k' ≤ k) (hg : sc.names.lookup x = some .globalImplicit)
    (h : WA X (e :: es) σ M fun us M1 => us.length = n ∧ WK X kws σ M1 fun ws M2 => ws.length = ks.length ∧ sp (us ++ ws) M2 Q)
    (hall : (backToKw pos (keywordEach kws X.env)).all (·.1.isSome) = true := by rfl) (hks : (backToKw pos (keywordEach kws X.env)).filterMap (·.1) = ks := by rfl)
    (hdb : (x == ("__debug__" : Str)) = false := by decide) (he : starEach (e :: es) X.env = (false, eval e X.env) :: starEach es X.env := by rfl)
    (hpl : ((backTo pos (starEach (e :: es) X.env)).any (·.1) || (backToKw pos (keywordEach kws X.env)).any (·.1.isNone)) = false := by rfl) : WE X (.Call (.Name x p) (e :: es) kws pos) σ M Q := by
  obtain ⟨P, w, K, mg, base, CX, hp⟩ := E
  obtain ⟨rfl, rfl, rfl, rfl, rfl, rfl, rfl, _, room, pas, _⟩ := B
  obtain ⟨f, fd, hmg, hkp, hf, oc, od, osl, lk⟩ := F
  obtain ⟨f', fd', hmg', ⟨oc', od', osl', lk'⟩, hb⟩ := G
  have e1 := hmg.symm.trans hmg'
  cases e1
  have e2 := lk.symm.trans lk'
  cases e2
  exact fun σ' H s m => wE.of (pe_callN (g := fun us ws => us ++ ws) (gV := fun us ws => us ++ ws) hf (room.mono hk) hg hmg hkp ⟨fun s us ws K' l1 l2 => hb s us ws K' l1 l2, fun r1 r2 => r1.append r2⟩ (pas X rfl rfl) wA.pa wK.pk hall hks hdb he hpl)
    (h.run s m fun vs H1 us M1 t1 m1 r1 s1 ⟨l1, q1⟩ po pins st I => thn (q1 σ' H1 s1 m1 po pins st I) fun _ _ z => AP.mono z fun vs2 H2 ⟨ws, M2, t2, m2, r2, l2, q2⟩ =>
      ⟨r1.length.trans l1, r2.length.trans l2, us ++ ws, M2, Q, m2, (Rvs.mono t2 _ _ r1).append r2, q2, fun u M' v H' q t3 m3 r3 => ⟨u, M', (t1.trans t2).trans t3, m3, r3, q⟩⟩)
/-- .. where the defaults fill up -/
theorem we_callD {p : Pos} {dws : List VV} (B : E.bd N sc fl k X) (F : E.fn k' x ps sp) (G : E.dfl x ps dws) (hk : k' ≤ k) (hg : sc.names.lookup x = some .globalImplicit)
    (h : WA X (e :: es) σ M fun ws M1 => sp (ws ++ dws) M1 Q) (hdb : (x == ("__debug__" : Str)) = false := by decide) (he : starEach (e :: es) X.env = (false, eval e X.env) :: starEach es X.env := by rfl) (hpl : (backTo pos (starEach es X.env)).any (·.1) = false := by rfl) :
    WE X (.Call (.Name x p) (e :: es) [] pos) σ M Q := by
  obtain ⟨P, w, K, mg, base, CX, hp⟩ := E
  obtain ⟨rfl, rfl, rfl, rfl, rfl, rfl, rfl, _, room, pas, _⟩ := B
  obtain ⟨f, fd, hmg, hkp, hf, oc, od, osl, lk⟩ := F
  obtain ⟨f', fd', ds, dvs, hmg', ⟨oc', od', osl', lk'⟩, hv, hd, hb⟩ := G
  have e1 := hmg.symm.trans hmg'
  cases e1
  have e2 := lk.symm.trans lk'
  cases e2
  exact fun σ' H s m => wE.of (pe_call hf (room.mono hk) hg hmg hkp hb hv (pas X rfl rfl) wA.pa hdb he hpl)
    (h.run s m fun vs H1 ws M1 t1 m1 r1 s1 q1 => ⟨ws ++ dws, M1, Q, m1, r1.append (hd H1), q1, fun u M' v H' q t2 m2 r2 => ⟨u, M', t1.trans t2, m2, r2, q⟩⟩)
/-! ### for x in reversed(range(n)) -/
theorem ws_forRev1 (B : E.bd N sc fl k X) {p p2 pos' pos2 : Pos} {body : List Stmt} (hg : sc.names.lookup ("range" : Str) = some .globalImplicit) (hm : E.mg "range" = none) (hg2 : sc.names.lookup ("reversed" : Str) = some .globalImplicit) (hm2 : E.mg "reversed" = none)
    (h : WE X a σ M fun u M1 => ∃ j : Int, u = .int j ∧ (-(2 ^ 62) ≤ j ∧ j < 2 ^ 62) ∧ Turns X tg body D j.toNat (fun i u => u = .int ((j.toNat : Int) - 1 - i)) (fun _ => True) σ M1)
    (hna : starEach [a] X.env = (false, eval a X.env) :: starEach [] X.env := by rfl) (hs : ∀ x, foldedSetIterable (.Call (.Name "reversed" p2) [.Call (.Name "range" p) [a] [] pos'] [] pos2) X.env x = pure x := by intro _; rfl) : WS X (.For tg (.Call (.Name "reversed" p2) [.Call (.Name "range" p) [a] [] pos'] [] pos2) body [] pos) σ M D := fun σ' H s m =>
  wS.of (ps_for B.own B.calm (pi_revR (by show X.env.scope.names.lookup _ = _; rw [B.esc]; exact hg2) (by rw [B.emg]; exact hm2) (prg_1 (by show X.env.scope.names.lookup _ = _; rw [B.esc]; exact hg) (by rw [B.emg]; exact hm) wE.pe hna)) wG.pg wSs.pss hs)
    (h.run s m fun v H1 u M1 t1 m1 r1 s1 ⟨j, e, ⟨l1, l2⟩, Pv, p0, _, ps, pe⟩ => by
      subst e
      cases r1
      refine ⟨j, rfl, by decide, by decide, l1, l2, ?_⟩
      rw [Int.sub_zero, Int.zero_add]
      refine for_rangeC (fun i => PoS X.K H (Pv i)) ⟨σ, M1, t1, s1, m1, p0⟩ (fun i σ2 H2 hi ⟨σ3, M3, t3, s3, m3, p3⟩ => ?_) fun σ2 H2 ⟨σ3, M3, t3, s3, m3, p3⟩ => ⟨σ3, M3, t3, s3, m3, pe _ _ p3⟩
      have e : ((j.toNat : Int) - 1 + (i : Int) * (-1)) = (j.toNat : Int) - 1 - i := by omega
      exact ((ps i _ σ3 M3 hi rfl p3).at t3 s3 m3 (by rw [e]; exact .int _)).mono fun σ4 H4 ⟨σ5, M5, t5, s5, m5, q5⟩ => q5.at t5 s5 m5)
/-! ### lists -/
theorem oc_min (hc : X.calm = true) {w : VV} {ns : List Int} (h : Lst M w (ns.map .int)) (h0 : 0 < ns.length) (q : ∀ m, m ∈ ns → (∀ y ∈ ns, m ≤ y) → Q (.int m) M) : OC X (.builtin "min") [w] M Q := fun H vs m r => by
  cases r with
  | cons r1 r2 =>
    cases r2
    obtain ⟨ad, vs, rfl, h1, h2⟩ := h.v m r1
    rw [h2.ints] at h1
    exact wCall.of (cr_min hc) ⟨ad, ns, rfl, h1, h0, fun z hz hl => .mk m (.int _) (q z hz hl)⟩
theorem oc_maxL (hc : X.calm = true) {w : VV} {ns : List Int} (h : Lst M w (ns.map .int)) (h0 : 0 < ns.length) (q : ∀ m, m ∈ ns → (∀ y ∈ ns, y ≤ m) → Q (.int m) M) : OC X (.builtin "max") [w] M Q := fun H vs m r => by
  cases r with
  | cons r1 r2 =>
    cases r2
    obtain ⟨ad, vs, rfl, h1, h2⟩ := h.v m r1
    rw [h2.ints] at h1
    exact wCall.of (cr_max hc) ⟨ad, ns, rfl, h1, h0, fun z hz hl => .mk m (.int _) (q z hz hl)⟩
/-- a new list, both sides of the walk's own -/
theorem o2_cat {p r : Addr} {us ws : List VV} (h1 : M p = some (.lst us)) (h2 : M r = some (.lst ws)) (hz : us.length + ws.length ≤ sizeLine) (q : ∀ l, M l = none → Q (.ref l) (updM M l (.lst (us ++ ws)))) : O2 X (binaryOp .Add) (.ref p) (.ref r) M Q := fun H v u m r1 r2 => by
  cases r1; cases r2
  obtain ⟨vs, g1, g2⟩ := m _ _ h1
  obtain ⟨vs', g3, g4⟩ := m _ _ h2
  exact wOp.of op_cat ⟨p, r, vs, vs', rfl, rfl, g1, g3, by rw [g2.length, g4.length]; exact hz, fun l hl => ⟨.ref l, _, TM.fresh hl, m.putL (TM.fresh hl) (.inl hl) (g2.append g4), .ref l, q l (m.no hl)⟩⟩
/-- what holds ints: a list or a tuple -/
inductive IntsW (M : Mp) : VV → List Int → Prop
  | lst {w ns} : Lst M w (ns.map .int) → IntsW M w ns
  | tup (ns) : IntsW M (.tup (ns.map .int)) ns
theorem IntsW.le {M' : Mp} {w : VV} {ns : List Int} (h : IntsW M w ns) (l : LeM M M') : IntsW M' w ns := by
  cases h with
  | lst h => exact .lst (h.le l)
  | tup => exact .tup _
theorem inV_ints (i : Int) (ns : List Int) : inV (.int i) (ns.map V.int) = decide (i ∈ ns) := by
  unfold inV
  induction ns with
  | nil => rfl
  | cons n ns ih =>
    rw [List.map_cons, List.any_cons, ih]
    show ((n == i) || decide (i ∈ ns)) = decide (i ∈ n :: ns)
    rw [Bool.eq_iff_iff, Bool.or_eq_true, beq_iff_eq, decide_eq_true_eq, decide_eq_true_eq, List.mem_cons]
    exact ⟨fun h => h.elim (fun e => .inl e.symm) .inr, fun h => h.elim (fun e => .inl e.symm) .inr⟩
theorem flat_ints (ns : List Int) : (ns.map V.int).all flatV = true := by
  induction ns with
  | nil => rfl
  | cons n ns ih => rw [List.map_cons, List.all_cons, ih]; rfl
theorem o2_in {i : Int} {w : VV} {ns : List Int} (h : IntsW M w ns) (q : Q (.bl (decide (i ∈ ns))) M) : O2 X (compareOp .In) (.int i) w M Q := fun H v u m r1 r2 => by
  cases r1
  cases h with
  | lst h =>
    obtain ⟨ad, vs, rfl, h1, h2⟩ := h.v m r2
    rw [h2.ints] at h1
    exact wOp.of op_in_seq ⟨ad, _, rfl, .inl h1, rfl, flat_ints ns, .mk m (.bl _) (by rw [if_neg Bool.false_ne_true, inV_ints]; exact q)⟩
  | tup =>
    obtain ⟨ad, vs, rfl, h1, h2⟩ := r2.tupv
    rw [h2.ints] at h1
    exact wOp.of op_in_seq ⟨ad, _, rfl, .inr h1, rfl, flat_ints ns, .mk m (.bl _) (by rw [if_neg Bool.false_ne_true, inV_ints]; exact q)⟩
theorem o2_notin {i : Int} {w : VV} {ns : List Int} (h : IntsW M w ns) (q : Q (.bl (!decide (i ∈ ns))) M) : O2 X (compareOp .NotIn) (.int i) w M Q := fun H v u m r1 r2 => by
  cases r1
  cases h with
  | lst h =>
    obtain ⟨ad, vs, rfl, h1, h2⟩ := h.v m r2
    rw [h2.ints] at h1
    exact wOp.of op_notIn_seq ⟨ad, _, rfl, .inl h1, rfl, flat_ints ns, .mk m (.bl _) (by rw [if_pos rfl, inV_ints]; exact q)⟩
  | tup =>
    obtain ⟨ad, vs, rfl, h1, h2⟩ := r2.tupv
    rw [h2.ints] at h1
    exact wOp.of op_notIn_seq ⟨ad, _, rfl, .inr h1, rfl, flat_ints ns, .mk m (.bl _) (by rw [if_pos rfl, inV_ints]; exact q)⟩
/-- xs.insert(i, y) -/
theorem ws_insert {apos cpos : Pos} (h : WE X a σ M fun l M1 => ∃ p ws0, l = .ref p ∧ M1 p = some (.lst ws0) ∧ WE X b σ M1 fun iv M2 => WE X c σ M2 fun y M3 => ∃ (j : Int) (ws : List VV), iv = .int j ∧ M3 p = some (.lst ws) ∧ ws.length < sizeLine ∧ 0 ≤ j ∧ j < 2 ^ 63 ∧ D.nx σ (updM M3 p (.lst (ws.take j.toNat ++ [y] ++ ws.drop j.toNat))))
    (hs : swapsWith (.Call (.Attribute a "insert" apos) [b, c] [] cpos) none pos.line X.env = pure false := by rfl)
    (hbase : attributeBase a "insert" X.env (eval a X.env) = eval a X.env := by rfl)
    (hfew : ((backTo cpos (starEach [b, c] X.env)).all (fun x => !x.1) && (backToKw cpos (keywordEach [] X.env)).all (fun x => x.1.isSome)
      && decide (([b, c] : List Expr).length + ([] : List Keyword).length + (if ([] : List Keyword).isEmpty then 0 else 1) < 30)) = true := by rfl)
    (hline : (apos.endLine == cpos.line) = true := by rfl) (hst : starEach [b, c] X.env = (false, eval b X.env) :: starEach [c] X.env := by rfl) (hst2 : starEach [c] X.env = (false, eval c X.env) :: starEach [] X.env := by rfl) (hplain : (backTo cpos (starEach [c] X.env)).any (·.1) = false := by rfl) :
    WS X (.Expr (.Call (.Attribute a "insert" apos) [b, c] [] cpos) pos) σ M D := fun σ' H s m =>
  wS.of (ps_expr (pe_bm (e := b) (es := [c]) PySem.F.plainAttrs_list PySem.F.slot_list_insert PySem.F.type_list_insert mt_insert wE.pe (pa_cons wE.pe (pa_cons wE.pe pa_nil hst2) hst) hbase hfew hline hst hplain) hs)
    (h.run s m fun v H1 l M1 t1 m1 r1 s1 ⟨p, ws0, e1, e2, q1⟩ => by
      subst e1; cases r1
      obtain ⟨vs0, h0, _⟩ := m1 _ _ e2
      exact ⟨.inl ⟨rfl, vs0, SqL.of h0⟩, q1.run s1 m1 fun u H2 iv M2 t2 m2 r2 s2 q2 => q2.run s2 m2 fun u3 H3 y M3 t3 m3 r3 s3 ⟨j, ws, e3, e4, hl, j0, j1, q⟩ => by
          subst e3; cases r2
          obtain ⟨vs, h1, h2⟩ := m3 _ _ e4
          exact ⟨p, vs, j, u3, rfl, rfl, h1, by rw [h2.length]; exact hl, j0, j1, σ, _, ((t1.trans t2).trans t3).trans (TM.lst h1), s3.mono (TM.lst h1), m3.putL (TM.lst h1) (.inr ⟨_, e4⟩) (((h2.take _).append (.cons r3 .nil)).append (h2.drop _)), q⟩⟩)
end
/-! ### comprehensions with a test -/
section
variable {X : Cx} {a c e tg : Expr} {σ : St3} {M : Mp} {Q : VQ} {D : En} {pos spos : Pos} {x : Str} {i : Nat}
variable {P : Program} {w : World} {K : PySem.W.Frag} {mg : Str → Option Value} {base : Heap} {CX : CXT} {N : List Str} {sc : Scope} {fl : Bool} {k : Nat}
def CompT (P : Program) (w : World) (K : PySem.W.Frag) (mg : Str → Option Value) (base : Heap) (CX : CXT) (N : List Str) (sc' : Scope) (k : Nat) (elt c : Expr) (i : Nat) (Q : VQ) (n : Nat) (it : Nat → VV → Prop) (hold : Mp → Prop) (σ : St3) (M : Mp) : Prop := ∀ D, M D = none → ∃ Pv : Nat → Mp → Prop, Pv 0 (updM M D (.lst [])) ∧ (∀ j M, j ≤ n → Pv j M → hold M) ∧
  (∀ Y : Cx, Bd P w K mg base CX N sc' false k Y → ∀ j u M, j < n → it j u → Pv j M → WT Y c (σ.set i (some u)) M fun t M1 => if t = true then (∀ Y' : Cx, Bd P w K mg base CX N sc' false k Y' → WE Y' elt (σ.set i (some u)) M1 fun y M2 => ∃ acc, M2 D = some (.lst acc) ∧ acc.length < sizeLine ∧ Pv (j + 1) (updM M2 D (.lst (acc ++ [y])))) else Pv (j + 1) M1) ∧ ∀ M, Pv n M → Q (.ref D) M
abbrev ttB (X : Cx) (scope : Scope) (c : Expr) : TT := fun σ H R => ∀ s0 H0 C cl fp, wT (X.blk s0 H0 scope (compEnvC scope cl C X.env) fp) c σ H R
theorem lcLT_read (B : Bd P w K mg base CX N sc fl k X) {elt : Expr} {scope : Scope} (h : WE X e σ M fun u M1 => ∃ ws, Lst M1 u ws ∧ CompT P w K mg base CX N (scBlk scope sc) k elt c i Q ws.length (fun j z => ws[j]? = some z) (fun M => Lst M u ws) σ M1)
    {σ' : St} {H : Hp} (s : Slots X.K H σ' σ) (m : SimM X.K M H) {Qv : VK} (hQ : ∀ v H', PoE X.K H Q v H' → Qv v H') : tLc (iList X.K (wE X e)) (gName i) (ttB X scope c) (teB X scope elt) [i] σ' H Qv := by
  refine h.run s m fun v H1 u M1 t1 m1 r1 s1 ⟨ws, hl, q1⟩ => ?_
  obtain ⟨ad, vs, rfl, h1, h2⟩ := hl.v m1 r1
  refine ⟨ad, rfl, ⟨vs, h1⟩, fun D hD => ?_⟩
  obtain ⟨Pv, p0, ph, ps, pe⟩ := q1 D (m1.no hD)
  have tD : TM H1 (upd H1 D (.lst [])) := TM.fresh hD
  refine ⟨fun j n H2 => n = ws.length - j ∧ j ≤ ws.length ∧ ∃ M2, TM H1 H2 ∧ SimM X.K M2 H2 ∧ Pv j M2, ⟨_, rfl, Nat.zero_le _, _, tD, m1.putL tD (.inl hD) .nil, p0⟩, ?_⟩
  rintro j n H2 ⟨rfl, hj, M2, t2, m2, p2⟩
  have hl2 := ph j M2 hj p2
  obtain ⟨ad', vs2, e', h3, h4⟩ := hl2.v m2 (Rv.mono t2 _ _ r1)
  cases e'
  have hlen := h4.length
  by_cases hlt : j < ws.length
  · obtain ⟨y, hy, ry⟩ := h4.get (i := j) (w := ws[j]) (by simp [hlt])
    refine .inr ⟨⟨vs2, y, h3, hy⟩, fun H' => ∃ M', TM H1 H' ∧ SimM X.K M' H' ∧ Pv (j + 1) M', fun H' z => ⟨_, by omega, rfl, hlt, z⟩, fun y' H' hy' => ?_⟩
    obtain ⟨rfl, hy'⟩ := hy'
    have ey := hy' vs2 h3
    rw [hy] at ey
    cases ey
    refine ⟨wipe1, ?_⟩
    show ∀ s0 H0 C cl fp, wT (X.blk s0 H0 scope (compEnvC scope cl C X.env) fp) c _ _ _
    intro s0 H0 C cl fp
    have Y := B.blk s0 H0 scope C cl fp
    rw [B.rel] at Y
    have hset : (wipe σ' [i]).set i (some y) = σ'.set i (some y) := by
      show (σ'.set i none).set i (some y) = _
      rw [List.set_set]
    have z := ps _ Y j ws[j] M2 hlt (by simp [hlt]) p2
    have s2 : Slots X.K H' ((wipe σ' [i]).set i (some y)) (σ.set i (some ws[j])) := by rw [hset]; exact (s1.mono t2).set i ry
    refine WT.run z s2 m2 fun b H3 M3 t3 m3 s3 q3 => ?_
    cases b with
    | false => rw [if_neg Bool.false_ne_true] at q3 ⊢; exact ⟨M3, t2.trans t3, m3, q3⟩
    | true =>
      rw [if_pos rfl] at q3 ⊢
      intro s0' H0' C' cl' fp'
      have Y' := B.blk s0' H0' scope C' cl' fp'
      rw [B.rel] at Y'
      refine (q3 _ Y' _ H3 (s2.mono t3) m3).mono fun y3 H4 ⟨w3, M4, t4, m4, r4, acc, e4, l4, p4⟩ => ?_
      obtain ⟨va, h5, h6⟩ := m4 _ _ e4
      exact ⟨va, h5, by rw [h6.length]; exact l4, _, ((t2.trans t3).trans t4).trans (TM.lst h5), m4.putL (TM.lst h5) (.inr ⟨_, e4⟩) (h6.append (.cons r4 .nil)), p4⟩
  · refine .inl ⟨⟨vs2, h3, by omega⟩, hQ _ _ ⟨.ref D, M2, t1.trans t2, m2, .ref D, pe M2 ?_⟩⟩
    have : j = ws.length := by omega
    subst this; exact p2
theorem lcRT_read (B : Bd P w K mg base CX N sc fl k X) {elt : Expr} {scope : Scope} (h : WA X [a] σ M fun us M1 => ∃ jj : Int, us = [.int jj] ∧ (-(2 ^ 62) ≤ jj ∧ jj < 2 ^ 62) ∧ CompT P w K mg base CX N (scBlk scope sc) k elt c i Q jj.toNat (fun j z => z = .int j) (fun _ => True) σ M1)
    {σ' : St} {H : Hp} (s : Slots X.K H σ' σ) (m : SimM X.K M H) {Qv : VK} (hQ : ∀ v H', PoE X.K H Q v H' → Qv v H') : tLc (iRng1 (wA X [a])) (gName i) (ttB X scope c) (teB X scope elt) [i] σ' H Qv := by
  refine h.run s m fun v H1 u M1 t1 m1 r1 s1 ⟨jj, e, ⟨l1, l2⟩, q1⟩ => ?_
  subst e
  cases r1 with | cons r1 r2 =>
  cases r1; cases r2
  refine ⟨jj, rfl, l1, l2, fun D hD => ?_⟩
  obtain ⟨Pv, p0, ph, ps, pe⟩ := q1 D (m1.no hD)
  have tD : TM H1 (upd H1 D (.lst [])) := TM.fresh hD
  refine ⟨fun j n H2 => n = jj.toNat - j ∧ j ≤ jj.toNat ∧ ∃ M2, TM H1 H2 ∧ SimM X.K M2 H2 ∧ Pv j M2, ⟨_, rfl, Nat.zero_le _, _, tD, m1.putL tD (.inl hD) .nil, p0⟩, ?_⟩
  rintro j n H2 ⟨rfl, hj, M2, t2, m2, p2⟩
  by_cases hlt : j < jj.toNat
  · refine .inr ⟨hlt, fun H' => ∃ M', TM H1 H' ∧ SimM X.K M' H' ∧ Pv (j + 1) M', fun H' z => ⟨_, by omega, rfl, hlt, z⟩, fun y' H' hy' => ?_⟩
    obtain ⟨rfl, rfl⟩ := hy'
    refine ⟨wipe1, ?_⟩
    show ∀ s0 H0 C cl fp, wT (X.blk s0 H0 scope (compEnvC scope cl C X.env) fp) c _ _ _
    intro s0 H0 C cl fp
    have Y := B.blk s0 H0 scope C cl fp
    rw [B.rel] at Y
    have hset : (wipe σ' [i]).set i (some (V.int (0 + (j : Int)))) = σ'.set i (some (V.int (0 + (j : Int)))) := by
      show (σ'.set i none).set i (some (V.int (0 + (j : Int)))) = _
      rw [List.set_set]
    have z := ps _ Y j (.int j) M2 hlt rfl p2
    have s2 : Slots X.K H' ((wipe σ' [i]).set i (some (V.int (0 + (j : Int))))) (σ.set i (some (.int j))) := by rw [hset]; exact (s1.mono t2).set i (by rw [Int.zero_add]; exact .int _)
    refine WT.run z s2 m2 fun b H3 M3 t3 m3 s3 q3 => ?_
    cases b with
    | false => rw [if_neg Bool.false_ne_true] at q3 ⊢; exact ⟨M3, t2.trans t3, m3, q3⟩
    | true =>
      rw [if_pos rfl] at q3 ⊢
      intro s0' H0' C' cl' fp'
      have Y' := B.blk s0' H0' scope C' cl' fp'
      rw [B.rel] at Y'
      refine (q3 _ Y' _ H3 (s2.mono t3) m3).mono fun y3 H4 ⟨w3, M4, t4, m4, r4, acc, e4, l4, p4⟩ => ?_
      obtain ⟨va, h5, h6⟩ := m4 _ _ e4
      exact ⟨va, h5, by rw [h6.length]; exact l4, _, ((t2.trans t3).trans t4).trans (TM.lst h5), m4.putL (TM.lst h5) (.inr ⟨_, e4⟩) (h6.append (.cons r4 .nil)), p4⟩
  · refine .inl ⟨(by show jj.toNat ≤ j; omega), hQ _ _ ⟨.ref D, M2, t1.trans t2, m2, .ref D, pe M2 ?_⟩⟩
    have : j = jj.toNat := by omega
    subst this; exact p2
section
variable {elt : Expr} {scope : Scope} {px : Pos}
theorem Bd.ptB {P : Program} {w : World} {K : PySem.W.Frag} {mg : Str → Option Value} {base : Heap} {CX : CXT} {N : List Str} {sc : Scope} {fl : Bool} {k : Nat} (B : Bd P w K mg base CX N sc fl k X) (s0 : Shared) (H0 : Hp) (C : Addr) (cl : List (Str × Addr)) (fp : List Addr) : PTs (X.blk s0 H0 scope (compEnvC scope cl C X.env) fp) [c] (ttB X scope c) :=
  pts_one ⟨fun pins s σ H R I h => h s0 H0 C cl fp pins s I⟩
theorem we_lcLstT (B : Bd P w K mg base CX N sc fl k X) (hi : At N i x) (hok : blkC N sc scope [(x, i)] = true) (hx : (scBlk scope sc).names.lookup x = some .local)
    (h : WE X e σ M fun u M1 => ∃ ws, Lst M1 u ws ∧ CompT P w K mg base CX N (scBlk scope sc) k elt c i Q ws.length (fun j z => ws[j]? = some z) (fun M => Lst M u ws) σ M1)
    (hs : ∀ x, foldedSetIterable e X.env x = pure x := by intro _; rfl) : WE X (.ListComp elt [⟨.Name x px, e, [c], 0⟩] scope pos) σ M Q := fun σ' H s m =>
  wE.of (pe_lc (own := [(x, i)]) (tt := ttB X scope c) (g := gName i) (te := teB X scope elt) B.calm (by rw [B.eN]; exact B.nd) (pi_list wE.pe) (by rw [B.eN, B.esc]; exact blkOk_by hok)
    (B.pgB hi hx) (fun s0 H0 C cl fp => B.ptB s0 H0 C cl fp) (fun s0 H0 C cl fp => ⟨fun pins s σ H R I h => h s0 H0 C cl fp pins s I⟩) hs) (lcLT_read B h s m fun _ _ z => z)
theorem we_lcRange1T (B : Bd P w K mg base CX N sc fl k X) {p pos' : Pos} (hi : At N i x) (hok : blkC N sc scope [(x, i)] = true) (hx : (scBlk scope sc).names.lookup x = some .local) (hg : sc.names.lookup ("range" : Str) = some .globalImplicit) (hm : mg "range" = none)
    (h : WA X [a] σ M fun us M1 => ∃ jj : Int, us = [.int jj] ∧ (-(2 ^ 62) ≤ jj ∧ jj < 2 ^ 62) ∧ CompT P w K mg base CX N (scBlk scope sc) k elt c i Q jj.toNat (fun j z => z = .int j) (fun _ => True) σ M1)
    (hsp : starEach [a] X.env = [(false, eval a X.env)] := by rfl) (hs : ∀ x, foldedSetIterable (.Call (.Name "range" p) [a] [] pos') X.env x = pure x := by intro _; rfl) : WE X (.ListComp elt [⟨.Name x px, .Call (.Name "range" p) [a] [] pos', [c], 0⟩] scope pos) σ M Q := fun σ' H s m =>
  wE.of (pe_lc (own := [(x, i)]) (tt := ttB X scope c) (g := gName i) (te := teB X scope elt) B.calm (by rw [B.eN]; exact B.nd) (pi_range1 (by show X.env.scope.names.lookup _ = _; rw [B.esc]; exact hg) (by rw [B.emg]; exact hm) wA.pa hsp) (by rw [B.eN, B.esc]; exact blkOk_by hok)
    (B.pgB hi hx) (fun s0 H0 C cl fp => B.ptB s0 H0 C cl fp) (fun s0 H0 C cl fp => ⟨fun pins s σ H R I h => h s0 H0 C cl fp pins s I⟩) hs) (lcRT_read B h s m fun _ _ z => z)
theorem ws_setLcLstT (B : Bd P w K mg base CX N sc fl k X) {y : Str} {py : Pos} {iy : Nat} (hiy : At N iy y) (hyl : sc.names.lookup y = some .local) (hsw : swapsWith (.ListComp elt [⟨.Name x px, e, [c], 0⟩] scope pos) (some (.Name y py)) spos.line (cenv sc) = pure true) (hi : At N i x) (hok : blkC N sc scope [(x, i)] = true) (hx : (scBlk scope sc).names.lookup x = some .local)
    (h : WE X e σ M fun u M1 => ∃ ws, Lst M1 u ws ∧ CompT P w K mg base CX N (scBlk scope sc) k elt c i (fun u M1 => D.nx (σ.set iy (some u)) M1) ws.length (fun j z => ws[j]? = some z) (fun M => Lst M u ws) σ M1)
    (hs : ∀ x, foldedSetIterable e X.env x = pure x := by intro _; rfl) : WS X (.Assign [.Name y py] (.ListComp elt [⟨.Name x px, e, [c], 0⟩] scope pos) spos) σ M D := fun σ' H s m =>
  wS.of (ps_setLc (i := iy) (own := [(x, i)]) (tt := ttB X scope c) (g := gName i) (te := teB X scope elt) B.calm (by rw [B.eN]; exact B.nd) (by rw [B.eN]; exact hiy.get) (by rw [B.esc]; exact hyl) (by rw [swWith_of (env' := cenv sc) (by rw [B.esc]; rfl)]; exact hsw) (pi_list wE.pe) (by rw [B.eN, B.esc]; exact blkOk_by hok)
    (B.pgB hi hx) (fun s0 H0 C cl fp => B.ptB s0 H0 C cl fp) (fun s0 H0 C cl fp => ⟨fun pins s σ H R I h => h s0 H0 C cl fp pins s I⟩) hs) (lcLT_read B h s m fun v H' ⟨u, M', t, m', r, q⟩ => ⟨_, M', t, (s.mono t).set iy r, m', q⟩)
end
/-- a filter: what the test and the item are is pure -/
theorem compT_pure {α : Type} {elt : Expr} {sc' : Scope} {xs : List α} {v f : α → VV} {g : α → Bool} {u : VV} {R : VQ} (hl : Lst M u (xs.map v)) (hz : xs.length ≤ sizeLine)
    (ht : ∀ Y : Cx, Bd P w K mg base CX N sc' false k Y → ∀ (j : Nat) (z : α) M', xs[j]? = some z → LeM M M' → WT Y c (σ.set i (some (v z))) M' fun t M2 => t = g z ∧ LeM M' M2)
    (he : ∀ Y : Cx, Bd P w K mg base CX N sc' false k Y → ∀ (j : Nat) (z : α) M', xs[j]? = some z → g z = true → LeM M M' → WE Y elt (σ.set i (some (v z))) M' fun y M2 => y = f z ∧ LeM M' M2)
    (q : ∀ D, M D = none → Q (.ref D) (updM M D (.lst ((xs.filter g).map f)))) (hR : ∀ u M', Fgt Q u M' → R u M' := by exact fun _ _ h => h) : CompT P w K mg base CX N sc' k elt c i R (xs.map v).length (fun j z => (xs.map v)[j]? = some z) (fun M => Lst M u (xs.map v)) σ M := fun D hD => by
  refine ⟨fun j M' => LeM (updM M D (.lst (((xs.take j).filter g).map f))) M', LeM.refl, fun j M' _ h => hl.le ((LeM.new hD).trans h), fun Y B j z M' hj hz' h => ?_, fun M' h => hR _ _ ⟨_, h, ?_⟩⟩
  · have hz2 : (xs.map v)[j]? = some z := hz'
    clear hz'
    rw [List.getElem?_map] at hz2
    rw [List.length_map] at hj
    have hx : xs[j]? = some xs[j] := by simp [hj]
    rw [hx] at hz2
    cases hz2
    have e1 : xs.take (j + 1) = xs.take j ++ [xs[j]] := by rw [List.take_add_one, hx]; rfl
    refine fun σ' H s m => (ht Y B j _ M' hx ((LeM.new hD).trans h) σ' H s m).mono fun b H1 ⟨M1, t1, m1, eb, l1⟩ => ⟨M1, t1, m1, ?_⟩
    subst eb
    cases hg : g xs[j] with
    | false =>
      rw [if_neg Bool.false_ne_true]
      have e2 : ((xs.take (j + 1)).filter g).map f = ((xs.take j).filter g).map f := by
        rw [e1, List.filter_append, List.filter_cons, hg]
        simp
      show LeM (updM M D (.lst (((xs.take (j + 1)).filter g).map f))) M1
      rw [e2]
      exact h.trans l1
    | true =>
      rw [if_pos rfl]
      intro Y' B'
      refine (he Y' B' j _ M1 hx hg (((LeM.new hD).trans h).trans l1)).mono fun y M2 ⟨e, l⟩ => ⟨_, l _ _ (l1 _ _ (h D _ updM_same)), ?_, ?_⟩
      · rw [List.length_map]
        have := List.length_filter_le g (xs.take j)
        rw [List.length_take] at this
        omega
      · subst e
        have e2 : ((xs.take (j + 1)).filter g).map f = ((xs.take j).filter g).map f ++ [f xs[j]] := by
          rw [e1, List.filter_append, List.filter_cons, hg]
          simp
        have e3 := LeM.upd (p := D) (o := .lst (((xs.take (j + 1)).filter g).map f)) ((h.trans l1).trans l)
        rw [updM_updM] at e3
        show LeM (updM M D (.lst (((xs.take (j + 1)).filter g).map f))) _
        rw [e2] at e3 ⊢
        exact e3
  · rw [List.length_map, List.take_length]; exact q D hD
end
end G3

set_option Elab.async false
set_option linter.all false
set_option maxRecDepth 100000
set_option maxHeartbeats 4000000
/-! L3: heads with keyword-only defaults; lists of lists -/
namespace G3
open PySem PySem.Spec L2
/-- the keyword-only default x of the global def f, if it is an object -/
def kwAt (f x : Str) (K : PySem.W.Frag) : Addr := match K.lookup (He.fAd K (f, none)) with
  | some ⟨_, _, .func fd, _⟩ => (match fd.kwdefaults with
    | .ref D => (match PySem.W.nsIn K D x with
      | some (some (.ref a)) => a
      | _ => 0)
    | _ => 0)
  | _ => 0
def dDk (x : Str) (st : Stmt) (kws : List (Str × He.Dv)) : He.DefD := ⟨(x, none), x, x, defArgs st, defBody st, defScope st, [], kws⟩
/-- an empty tuple of the head -/
def nilB (K : PySem.W.Frag) (a : Addr) : Bool := match K.lookup a with
  | some ⟨.type c, _, .seq its _, _⟩ => decide (c = "tuple") && decide (its.size = 0)
  | _ => false
theorem nilB_ok {K : PySem.W.Frag} {a : Addr} (h : nilB K a = true) (H : Hp) : Rv K H (.ref a) (.tup []) := by
  unfold nilB at h
  cases q : K.lookup a with
  | none => rw [q] at h; cases h
  | some o =>
    obtain ⟨oc, od, dt, osl⟩ := o
    rw [q] at h
    cases oc with
    | type c =>
      cases dt with
      | seq its n =>
        obtain ⟨h1, h2⟩ := He.ba (show (decide (c = "tuple") && decide (its.size = 0)) = true from h)
        have e1 : c = "tuple" := of_decide_eq_true h1
        have e2 : its = #[] := Array.size_eq_zero_iff.mp (of_decide_eq_true h2)
        subst e1 e2
        exact rv_tupK q rfl rfl (by decide) .nil (fun _ => .nil) H
      | _ => cases h
    | _ => cases h
theorem TxK.mk {E : Ev} {h : Heap} {fa : List He.Fa} {fn : List He.DefD} (X : E.K.In h) (G : h.Ns mainGlobals E.mg) (c : He.SaysD fa fn E.K) (i j : Nat) {x : Str} {st : Stmt} {kws : List (Str × He.Dv)} (hd : fn[i]? = some (dDk x st kws)) (hg : fa[j]? = some (.glo x)) :
    TxK E x st (kws.map fun q => (q.1, q.2.v E.K)) := by
  obtain ⟨fd, F⟩ := c.def_ i hd
  exact ⟨_, fd, F, He.glo_ok X G (c.fact j hg)⟩
abbrev vn (n : Nat) : VV := .int (n : Int)
/-- lists of numbers, one after the other -/
inductive Els (M : Mp) : List VV → List (List Nat) → Prop
  | nil : Els M [] []
  | cons {a : Addr} {l : List Nat} {ps ls} : M a = some (.lst (l.map vn)) → Els M ps ls → Els M (.ref a :: ps) (l :: ls)
theorem Els.le {M M' : Mp} (h : LeM M M') {ps ls} (e : Els M ps ls) : Els M' ps ls := by
  induction e with
  | nil => exact .nil
  | cons h1 _ ih => exact .cons (h _ _ h1) ih
theorem Els.length {M : Mp} {ps ls} (e : Els M ps ls) : ps.length = ls.length := by
  induction e with
  | nil => rfl
  | cons h1 _ ih => simp [ih]
theorem Els.append {M : Mp} {ps ls ps' ls'} (e : Els M ps ls) (e' : Els M ps' ls') : Els M (ps ++ ps') (ls ++ ls') := by
  induction e with
  | nil => exact e'
  | cons h1 _ ih => exact .cons h1 ih
theorem Els.get {M : Mp} {ps ls} (e : Els M ps ls) : ∀ {i : Nat} {p}, ps[i]? = some p → ∃ a l, p = .ref a ∧ ls[i]? = some l ∧ M a = some (.lst (l.map vn)) := by
  induction e with
  | nil => intro i p h; cases h
  | cons h1 _ ih =>
    intro i p h
    cases i with
    | zero => cases h; exact ⟨_, _, rfl, rfl, h1⟩
    | succ i => exact ih h
theorem Els.filterC {M : Mp} {ps ls} (b : Bool) (e : Els M ps ls) : Els M (ps.filter fun _ => b) (ls.filter fun _ => b) := by
  cases b with
  | false => rw [List.filter_eq_nil_iff.mpr fun _ _ => Bool.false_ne_true, List.filter_eq_nil_iff.mpr fun _ _ => Bool.false_ne_true]; exact .nil
  | true => rw [List.filter_eq_self.mpr fun _ _ => rfl, List.filter_eq_self.mpr fun _ _ => rfl]; exact e
/-- such a list of lists -/
def LLs (M : Mp) (w : VV) (ls : List (List Nat)) : Prop := ∃ a ps, w = .ref a ∧ M a = some (.lst ps) ∧ Els M ps ls
theorem LLs.le {M M' : Mp} {w : VV} {ls : List (List Nat)} (h : LLs M w ls) (l : LeM M M') : LLs M' w ls := by
  obtain ⟨a, ps, h1, h2, h3⟩ := h
  exact ⟨a, ps, h1, l _ _ h2, h3.le l⟩
/-- a new object, then an item more in the list m -/
theorem LeM.app {M0 M' : Mp} {m r : Addr} {o x y : MO} (h : LeM (updM M0 m x) M') (hr : M' r = none) : LeM (updM (updM M0 r o) m y) (updM (updM M' r o) m y) := fun a u e => by
  by_cases h1 : a = m
  · subst h1; rw [updM_same] at e ⊢; exact e
  · rw [updM_ne h1] at e ⊢
    by_cases h2 : a = r
    · subst h2; rw [updM_same] at e ⊢; exact e
    · rw [updM_ne h2] at e ⊢
      exact h a u (by rw [updM_ne h1]; exact e)
theorem compT_pureV {c elt : Expr} {σ : St3} {M : Mp} {Q R : VQ} {i : Nat} {P : Program} {w : World} {K : PySem.W.Frag} {mg : Str → Option Value} {base : Heap} {CX : CXT} {N : List Str} {k : Nat} {sc' : Scope} {xs : List VV} {g : VV → Bool} {u : VV} (hl : Lst M u xs) (hz : xs.length ≤ sizeLine)
    (ht : ∀ Y : Cx, Bd P w K mg base CX N sc' false k Y → ∀ (j : Nat) (z : VV) M', xs[j]? = some z → LeM M M' → WT Y c (σ.set i (some z)) M' fun t M2 => t = g z ∧ LeM M' M2)
    (he : ∀ Y : Cx, Bd P w K mg base CX N sc' false k Y → ∀ (j : Nat) (z : VV) M', xs[j]? = some z → g z = true → LeM M M' → WE Y elt (σ.set i (some z)) M' fun y M2 => y = z ∧ LeM M' M2)
    (q : ∀ D, M D = none → Q (.ref D) (updM M D (.lst (xs.filter g)))) (hR : ∀ u M', Fgt Q u M' → R u M') : CompT P w K mg base CX N sc' k elt c i R xs.length (fun j z => xs[j]? = some z) (fun M => Lst M u xs) σ M := by
  have h := compT_pure (xs := xs) (v := fun p => p) (f := fun p => p) (g := g) (u := u) (R := R) (by rw [List.map_id']; exact hl) hz ht he (by intro D hD; rw [List.map_id']; exact q D hD) hR
  rw [List.map_id'] at h
  exact h
end G3

set_option Elab.async false
set_option linter.all false
set_option maxRecDepth 100000
set_option maxHeartbeats 4000000
/-! L3: pop, min of what has an order -/
namespace G3
open PySem PySem.Spec L2
theorem clsNe {a b : String} (h : a ≠ b) : (Value.type a) ≠ Value.type b := fun z => h (Value.type.inj z)
mutual
theorem readsU {h : Heap} : ∀ {v : Value} {d e : PyData} {as bs : List Addr}, Reads h v d as → Reads h v e bs → d = e
  | _, _, _, _, _, .none, r => by cases r; rfl
  | _, _, _, _, _, .bool _, r => by cases r; rfl
  | _, _, _, _, _, .int _ _, r => by cases r; rfl
  | _, _, _, _, _, .str _ _, r => by cases r; rfl
  | _, _, _, _, _, .list h1 h2 h3 h4, r => by
    cases r with
    | list k1 k2 k3 k4 =>
      cases h1.symm.trans k1
      cases h3.symm.trans k3
      rw [readsAllU h4 k4]
    | tuple k1 k2 k3 k4 => cases h1.symm.trans k1; exact absurd (h2.symm.trans k2) (clsNe (by decide))
    | dict k1 k2 k3 k4 => cases h1.symm.trans k1; exact absurd (h2.symm.trans k2) (clsNe (by decide))
  | _, _, _, _, _, .tuple h1 h2 h3 h4, r => by
    cases r with
    | list k1 k2 k3 k4 => cases h1.symm.trans k1; exact absurd (h2.symm.trans k2) (clsNe (by decide))
    | tuple k1 k2 k3 k4 =>
      cases h1.symm.trans k1
      cases h3.symm.trans k3
      rw [readsAllU h4 k4]
    | dict k1 k2 k3 k4 => cases h1.symm.trans k1; exact absurd (h2.symm.trans k2) (clsNe (by decide))
  | _, _, _, _, _, .dict h1 h2 h3 h4 h5, r => by
    cases r with
    | list k1 k2 k3 k4 => cases h1.symm.trans k1; exact absurd (h2.symm.trans k2) (clsNe (by decide))
    | tuple k1 k2 k3 k4 => cases h1.symm.trans k1; exact absurd (h2.symm.trans k2) (clsNe (by decide))
    | dict k1 k2 k3 k4 k5 =>
      cases h1.symm.trans k1
      cases h3.symm.trans k3
      have e1 := readsAllU h4 k4
      have e2 := readsAllU h5 k5
      congr 1
      refine List.ext_getElem? fun i => ?_
      have f1 := congrArg (fun l => l[i]?) e1
      have f2 := congrArg (fun l => l[i]?) e2
      simp only [List.getElem?_map] at f1 f2
      rename_i kvs _ _ kvs' _ _
      revert f1 f2
      cases kvs[i]? with
      | none => cases kvs'[i]? with
        | none => intro _ _; rfl
        | some z => intro f1; cases f1
      | some z => cases kvs'[i]? with
        | none => intro f1; cases f1
        | some z' =>
          intro f1 f2
          obtain ⟨a, b⟩ := z
          obtain ⟨c, d⟩ := z'
          cases f1; cases f2; rfl
theorem readsAllU {h : Heap} : ∀ {vs : List Value} {ds es : List PyData} {as bs : List Addr}, ReadsAll h vs ds as → ReadsAll h vs es bs → ds = es
  | _, _, _, _, _, .nil, r => by cases r; rfl
  | _, _, _, _, _, .cons h1 h2, r => by
    cases r with
    | cons k1 k2 => rw [readsU h1 k1, readsAllU h2 k2]
end
theorem readsAll_get {h : Heap} {vs : List Value} : ∀ {ds : List PyData} {as : List Addr} {i : Nat} {v : Value}, ReadsAll h vs ds as → vs[i]? = some v → ∃ d bs, ds[i]? = some d ∧ Reads h v d bs := by
  induction vs with
  | nil => intro ds as i v _ e; cases e
  | cons u us ih =>
    intro ds as i v r e
    cases r with
    | cons r1 r2 =>
      cases i with
      | zero => cases e; exact ⟨_, _, rfl, r1⟩
      | succ i =>
        obtain ⟨d, bs, z1, z2⟩ := ih (i := i) (v := v) r2 (by simpa using e)
        exact ⟨d, bs, by simpa using z1, z2⟩
theorem vals_get {vs : List V} : ∀ {us : List Value} {i : Nat} {u : Value}, Vals vs us → us[i]? = some u → ∃ v, vs[i]? = some v ∧ RelV v u := by
  induction vs with
  | nil => intro us i u r e; cases r; cases e
  | cons v vs ih =>
    intro us i u r e
    cases r with
    | cons r1 r2 =>
      cases i with
      | zero => cases e; exact ⟨_, rfl, r1⟩
      | succ i => exact ih r2 e
section
variable {X : Cx} {a b : Expr} {σ : St3} {M : Mp} {Q : VQ}
theorem we_popAt {apos cpos : Pos} (h : WE X a σ M fun l M1 => ∃ p ws0, l = .ref p ∧ M1 p = some (.lst ws0) ∧ WE X b σ M1 fun iv M2 => ∃ (j : Nat) (ws : List VV) (y : VV), iv = .int j ∧ M2 p = some (.lst ws) ∧ j < 2 ^ 62 ∧ ws[j]? = some y ∧ Q y (updM M2 p (.lst (ws.eraseIdx j))))
    (hbase : attributeBase a "pop" X.env (eval a X.env) = eval a X.env := by rfl)
    (hfew : ((backTo cpos (starEach [b] X.env)).all (fun x => !x.1) && (backToKw cpos (keywordEach [] X.env)).all (fun x => x.1.isSome)
      && decide (([b] : List Expr).length + ([] : List Keyword).length + (if ([] : List Keyword).isEmpty then 0 else 1) < 30)) = true := by rfl)
    (hline : (apos.endLine == cpos.line) = true := by rfl) (hst : starEach [b] X.env = (false, eval b X.env) :: starEach [] X.env := by rfl) (hplain : (backTo cpos (starEach [] X.env)).any (·.1) = false := by rfl) :
    WE X (.Call (.Attribute a "pop" apos) [b] [] cpos) σ M Q := fun σ' H s m =>
  wE.of (pe_bm (e := b) (es := []) PySem.F.plainAttrs_list PySem.F.slot_list_pop PySem.F.type_list_pop mt_popAt wE.pe (pa_cons wE.pe pa_nil hst) hbase hfew hline hst hplain)
    (h.run s m fun v H1 l M1 t1 m1 r1 s1 ⟨p, ws0, e1, e2, q1⟩ => by
      subst e1; cases r1
      obtain ⟨vs0, h0, _⟩ := m1 _ _ e2
      exact ⟨.inl ⟨rfl, vs0, SqL.of h0⟩, q1.run s1 m1 fun u H2 iv M2 t2 m2 r2 s2 ⟨j, ws, y, e3, e4, hj, hy, q⟩ => by
          subst e3; cases r2
          obtain ⟨vs, h1, h2⟩ := m2 _ _ e4
          obtain ⟨y', hy', ry⟩ := h2.get hy
          have hlt : j < vs.length := (List.getElem?_eq_some_iff.mp hy').1
          have hix : seqIndex? (j : Int) vs.length = some j := by
            have hn : ¬ ((j : Int) < 0) := by omega
            unfold seqIndex?
            simp [hn, hlt]
          exact ⟨p, vs, (j : Int), j, y', rfl, rfl, h1, by omega, by omega, hix, hy', y, _, (t1.trans t2).trans (TM.lst h1), m2.putL (TM.lst h1) (.inr ⟨_, e4⟩) (h2.eraseIdx j), Rv.mono (TM.lst h1) _ _ ry, q⟩⟩)
/-- min of a list whose items are data with an order: one that reads as the least -/
theorem oc_minD {α : Type} [DecidableEq α] [PySem.W.DatumOrd α] (hc : X.calm = true) {w : VV} {ws : List VV} {x : α} {xs : List α} (hu : X.A.units + 1 + PySem.W.Datum.depth α < cLine) (h : Lst M w ws) (hd : DWs M ws ((x :: xs).map PySem.W.Datum.toD))
    (q : ∀ (i : Nat) u, ws[i]? = some u → (x :: xs)[i]? = some (PySem.W.minOf x xs) → Q u M) : OC X (.builtin "min") [w] M Q := fun H vs m r => by
  cases r with
  | cons r1 r2 =>
    cases r2
    obtain ⟨ad, vs, rfl, h1, h2⟩ := h.v m r1
    intro pins s σ us I rv
    obtain ⟨its, rvs, hl, _⟩ := I.list h1
    rw [Vals.ref1 rv]
    have hall := Dp.readsAll I _ _ _ (hd.dp m _ _ _ h2) rvs
    obtain ⟨as, hall⟩ := hall
    refine PySem.W.min_list_datum (I.ok.hd hc) hl.isList (x := x) (xs := xs) ⟨as, by simpa using hall⟩ hu fun i v h' tk hi hv hk => ?_
    have hi' : its[i]? = some v := by simpa using hi
    obtain ⟨v0, hv0, rv0⟩ := vals_get rvs hi'
    obtain ⟨u, hu1, hu2⟩ := h2.get' hv0
    obtain ⟨d, bs, hd1, hd2⟩ := readsAll_get hall hi'
    obtain ⟨cs, hv⟩ := hv
    have e := readsU (PyProof.Rows.Reads.keeps hk hd2) hv
    rw [List.getElem?_map] at hd1
    obtain ⟨z, hz, ez⟩ := Option.map_eq_some_iff.mp hd1
    have ee : z = PySem.W.minOf x xs := by
      have e3 := PySem.W.Datum.eqv z z
      rw [decide_eq_true rfl] at e3
      have e4 := PySem.W.Datum.eqv z (PySem.W.minOf x xs)
      rw [← e, ← ez, e3] at e4
      exact of_decide_eq_true e4.symm
    rw [ee] at hz
    exact ⟨v0, H, I.kept hk, rv0, .mk m hu2 (q i u hu1 hz)⟩
end
end G3

set_option Elab.async false
set_option linter.all false
set_option maxRecDepth 100000
set_option maxHeartbeats 4000000
/-! L3: enumerate, zip; x in l of data -/
namespace G3
open PySem PySem.Spec L2
section
variable {X : Cx} {a b c e tg : Expr} {es : List Expr} {st : Stmt} {σ : St3} {M : Mp} {Q : VQ} {D : En} {pos : Pos} {x : Str} {i : Nat}
variable {P : Program} {w : World} {K : PySem.W.Frag} {mg : Str → Option Value} {base : Heap} {CX : CXT} {N : List Str} {sc : Scope} {fl : Bool} {k : Nat}
theorem ws_forEnum (B : Bd P w K mg base CX N sc fl k X) {p pos' tpos : Pos} {elts : List Expr} {kk : Nat} {body : List Stmt} (hg : sc.names.lookup ("enumerate" : Str) = some .globalImplicit) (hm : mg "enumerate" = none)
    (h : WA X [e] σ M fun us M1 => ∃ u ws, us = [u] ∧ Lst M1 u ws ∧ Turns X (.Tuple elts kk tpos) body D ws.length (fun i v => ∃ w, ws[i]? = some w ∧ v = .tup [.int i, w]) (fun M => Lst M u ws) σ M1)
    (hsp : starEach [e] X.env = [(false, eval e X.env)] := by rfl) (hs : ∀ x, foldedSetIterable (.Call (.Name "enumerate" p) [e] [] pos') X.env x = pure x := by intro _; rfl) : WS X (.For (.Tuple elts kk tpos) (.Call (.Name "enumerate" p) [e] [] pos') body [] pos) σ M D := fun σ' H s m =>
  wS.of (ps_for B.own B.calm (pi_enum (by show X.env.scope.names.lookup _ = _; rw [B.esc]; exact hg) (by rw [B.emg]; exact hm) wA.pa hsp) wG.pg wSs.pss hs)
    (h.run s m fun vs0 H1 us M1 t1 m1 r1 s1 ⟨u, ws, eus, hl, Pv, p0, ph, ps, pe⟩ => by
      subst eus
      cases r1 with | cons r1 r2 =>
      cases r2
      obtain ⟨a, vs, rfl, h1, h2⟩ := hl.v m1 r1
      have stays : ∀ {H2 M2}, SimM X.K M2 H2 → Lst M2 u ws → TM H1 H2 → ∃ vs, SqL X.K H2 a vs ∧ Rvs X.K H2 vs ws := fun {H2 M2} m2 hl2 t => by
        obtain ⟨a', vs', e', q1, q2⟩ := hl2.v m2 (Rv.mono t _ _ r1)
        cases e'
        exact ⟨vs', q1, q2⟩
      refine ⟨a, vs, rfl, h1, fun i n σ2 H2 => n = ws.length - i ∧ i ≤ ws.length ∧ PoS X.K H1 (Pv i) σ2 H2, ⟨_, rfl, Nat.zero_le _, σ, M1, TM.refl, s1, m1, p0⟩, ?_⟩
      rintro i n σ2 H2 ⟨rfl, hi, σ3, M3, t3, s3, m3, p3⟩
      obtain ⟨vs, hv, rv⟩ := stays m3 (ph i σ3 M3 hi p3) t3
      have hlen := rv.length
      by_cases hlt : i < ws.length
      · obtain ⟨x, hx, rx⟩ := rv.get (i := i) (w := ws[i]) (by simp [hlt])
        refine .inr ⟨⟨vs, x, hv, hx⟩, PoS X.K H1 (Pv (i + 1)), fun σ' H' z => ⟨_, by omega, rfl, hlt, z⟩, fun y H' hy => ?_⟩
        obtain ⟨T, x', rfl, hT, rfl, hy⟩ := hy
        have ey := hy vs hv
        rw [hx] at ey
        cases ey
        have tT : TM H2 (upd H2 T (.tup [.int (i : Nat), x])) := TM.fresh hT
        have rT : Rv X.K (upd H2 T (.tup [.int (i : Nat), x])) (.ref T) (.tup [.int (i : Nat), ws[i]]) := .tup (SqT.of upd_same) (.cons (.int _) (.cons (Rv.mono tT _ _ rx) .nil))
        exact ((ps i _ σ3 M3 hlt ⟨ws[i], by simp [hlt], rfl⟩ p3).at (t3.trans tT) (s3.mono tT) (m3.alloc hT) rT).mono fun σ4 H4 ⟨σ5, M5, t5, s5, m5, q5⟩ => (q5.at t5 s5 m5).mono (fun _ _ z => z) (fun _ _ z => PoR.tr t1 z) (fun _ _ z => PoS.tr t1 z) (fun _ _ z => z)
      · refine .inl ⟨⟨vs, hv, by omega⟩, σ3, M3, t1.trans t3, s3, m3, pe σ3 M3 ?_⟩
        have : i = ws.length := by omega
        subst this; exact p3)
theorem ws_forZip (B : Bd P w K mg base CX N sc fl k X) {e2 : Expr} {p pos' tpos : Pos} {elts : List Expr} {kk : Nat} {body : List Stmt} (hg : sc.names.lookup ("zip" : Str) = some .globalImplicit) (hm : mg "zip" = none)
    (h : WA X [e, e2] σ M fun us M1 => ∃ u u2 ws ws2, us = [u, u2] ∧ Lst M1 u ws ∧ Lst M1 u2 ws2 ∧ Turns X (.Tuple elts kk tpos) body D (min ws.length ws2.length) (fun i v => ∃ w w2, ws[i]? = some w ∧ ws2[i]? = some w2 ∧ v = .tup [w, w2]) (fun M => Lst M u ws ∧ Lst M u2 ws2) σ M1)
    (hst : starEach [e, e2] X.env = (false, eval e X.env) :: starEach [e2] X.env := by rfl) (hpl : (backTo pos' (starEach [e2] X.env)).any (·.1) = false := by rfl) (hs : ∀ x, foldedSetIterable (.Call (.Name "zip" p) [e, e2] [] pos') X.env x = pure x := by intro _; rfl) : WS X (.For (.Tuple elts kk tpos) (.Call (.Name "zip" p) [e, e2] [] pos') body [] pos) σ M D := fun σ' H s m =>
  wS.of (ps_for B.own B.calm (pi_zip (by show X.env.scope.names.lookup _ = _; rw [B.esc]; exact hg) (by rw [B.emg]; exact hm) wA.pa hst hpl) wG.pg wSs.pss hs)
    (h.run s m fun vs0 H1 us M1 t1 m1 r1 s1 ⟨u, u2, ws, ws2, eus, hl, hl2, Pv, p0, ph, ps, pe⟩ => by
      subst eus
      cases r1 with | cons r1 r2 =>
      cases r2 with | cons r2 r3 =>
      cases r3
      obtain ⟨a, vs, rfl, h1, h2⟩ := hl.v m1 r1
      obtain ⟨a2, vs2, rfl, h12, h22⟩ := hl2.v m1 r2
      have stays : ∀ {H2 M2}, SimM X.K M2 H2 → Lst M2 u ws ∧ Lst M2 u2 ws2 → TM H1 H2 → ∃ vs vs2, SqL X.K H2 a vs ∧ Rvs X.K H2 vs ws ∧ SqL X.K H2 a2 vs2 ∧ Rvs X.K H2 vs2 ws2 := fun {H2 M2} m2 hl2 t => by
        obtain ⟨a', vs', e', q1, q2⟩ := hl2.1.v m2 (Rv.mono t _ _ r1)
        obtain ⟨a'', vs'', e'', q1', q2'⟩ := hl2.2.v m2 (Rv.mono t _ _ r2)
        cases e'
        cases e''
        exact ⟨vs', vs'', q1, q2, q1', q2'⟩
      refine ⟨a, a2, vs, vs2, rfl, h1, h12, fun i n σ2 H2 => n = min ws.length ws2.length - i ∧ i ≤ min ws.length ws2.length ∧ PoS X.K H1 (Pv i) σ2 H2, ⟨_, rfl, Nat.zero_le _, σ, M1, TM.refl, s1, m1, p0⟩, ?_⟩
      rintro i n σ2 H2 ⟨rfl, hi, σ3, M3, t3, s3, m3, p3⟩
      obtain ⟨vs, vs2, hv, rv, hv2, rv2⟩ := stays m3 (ph i σ3 M3 hi p3) t3
      have hlen := rv.length
      have hlen2 := rv2.length
      by_cases hlt : i < min ws.length ws2.length
      · have hlt1 : i < ws.length := by omega
        have hlt2 : i < ws2.length := by omega
        obtain ⟨x, hx, rx⟩ := rv.get (i := i) (w := ws[i]) (by simp [hlt1])
        obtain ⟨x2, hx2, rx2⟩ := rv2.get (i := i) (w := ws2[i]) (by simp [hlt2])
        refine .inr ⟨⟨vs, vs2, x, x2, hv, hv2, hx, hx2⟩, PoS X.K H1 (Pv (i + 1)), fun σ' H' z => ⟨_, by omega, rfl, hlt, z⟩, fun y H' hy => ?_⟩
        obtain ⟨T, x', y', rfl, hT, rfl, hy, hy2⟩ := hy
        have ey := hy vs hv
        have ey2 := hy2 vs2 hv2
        rw [hx] at ey
        rw [hx2] at ey2
        cases ey
        cases ey2
        have tT : TM H2 (upd H2 T (.tup [x, x2])) := TM.fresh hT
        have rT : Rv X.K (upd H2 T (.tup [x, x2])) (.ref T) (.tup [ws[i], ws2[i]]) := .tup (SqT.of upd_same) (.cons (Rv.mono tT _ _ rx) (.cons (Rv.mono tT _ _ rx2) .nil))
        exact ((ps i _ σ3 M3 hlt ⟨ws[i], ws2[i], by simp [hlt1], by simp [hlt2], rfl⟩ p3).at (t3.trans tT) (s3.mono tT) (m3.alloc hT) rT).mono fun σ4 H4 ⟨σ5, M5, t5, s5, m5, q5⟩ => (q5.at t5 s5 m5).mono (fun _ _ z => z) (fun _ _ z => PoR.tr t1 z) (fun _ _ z => PoS.tr t1 z) (fun _ _ z => z)
      · refine .inl ⟨⟨vs, vs2, hv, hv2, by omega⟩, σ3, M3, t1.trans t3, s3, m3, pe σ3 M3 ?_⟩
        have : i = min ws.length ws2.length := by omega
        subst this; exact p3)
theorem o2_inD {α : Type} [DecidableEq α] [PySem.W.Datum α] {u v : VV} {x : α} {xs : List α} (hu : X.A.units + 65 < cLine) (h1 : DW M u (PySem.W.Datum.toD x)) (h2 : DW M v (PySem.W.Datum.toD xs)) (s1 : SeqAt.shaped (PySem.W.Datum.toD x) = true) (s2 : SeqAt.shaped (PySem.W.Datum.toD xs) = true) (q : Q (.bl (decide (x ∈ xs))) M) : O2 X (compareOp .In) u v M Q := fun H v1 v2 m r1 r2 => by
  have e : ((xs.map PySem.W.Datum.toD).any fun z => PyData.eqv z (PySem.W.Datum.toD x)) = decide (x ∈ xs) := by
    rw [List.any_map, Bool.eq_iff_iff, List.any_eq_true, decide_eq_true_eq]
    constructor
    · rintro ⟨y, hy, z⟩
      have z' : PyData.eqv (PySem.W.Datum.toD y) (PySem.W.Datum.toD x) = true := z
      rw [PySem.W.Datum.eqv, decide_eq_true_eq] at z'
      rw [← z']; exact hy
    · intro h
      refine ⟨x, h, ?_⟩
      show PyData.eqv (PySem.W.Datum.toD x) (PySem.W.Datum.toD x) = true
      rw [PySem.W.Datum.eqv, decide_eq_true_eq]
  exact wOp.of (op_inD hu) ⟨_, xs.map PySem.W.Datum.toD, h1.dp m _ _ _ r1, h2.dp m _ _ _ r2, s1, s2, .mk m (.bl _) (by rw [e]; exact q)⟩
theorem o2_notinD {α : Type} [DecidableEq α] [PySem.W.Datum α] {u v : VV} {x : α} {xs : List α} (hu : X.A.units + 65 < cLine) (h1 : DW M u (PySem.W.Datum.toD x)) (h2 : DW M v (PySem.W.Datum.toD xs)) (s1 : SeqAt.shaped (PySem.W.Datum.toD x) = true) (s2 : SeqAt.shaped (PySem.W.Datum.toD xs) = true) (q0 : ∀ k : Bool, (k = true ↔ x ∈ xs) → Q (.bl (!k)) M) : O2 X (compareOp .NotIn) u v M Q := fun H v1 v2 m r1 r2 => by
  have q := q0 (decide (x ∈ xs)) decide_eq_true_iff
  have e : ((xs.map PySem.W.Datum.toD).any fun z => PyData.eqv z (PySem.W.Datum.toD x)) = decide (x ∈ xs) := by
    rw [List.any_map, Bool.eq_iff_iff, List.any_eq_true, decide_eq_true_eq]
    constructor
    · rintro ⟨y, hy, z⟩
      have z' : PyData.eqv (PySem.W.Datum.toD y) (PySem.W.Datum.toD x) = true := z
      rw [PySem.W.Datum.eqv, decide_eq_true_eq] at z'
      rw [← z']; exact hy
    · intro h
      refine ⟨x, h, ?_⟩
      show PyData.eqv (PySem.W.Datum.toD x) (PySem.W.Datum.toD x) = true
      rw [PySem.W.Datum.eqv, decide_eq_true_eq]
  exact wOp.of (op_notInD hu) ⟨_, xs.map PySem.W.Datum.toD, h1.dp m _ _ _ r1, h2.dp m _ _ _ r2, s1, s2, .mk m (.bl _) (by rw [e]; exact q)⟩
theorem comp_pureRS {elt : Expr} {sc' : Scope} {n : Nat} {f : Nat → VV} {R : VQ} (hz : n ≤ sizeLine)
    (he : ∀ Y : Cx, Bd P w K mg base CX N sc' false k Y → ∀ (j : Nat) M', j < n → LeM M M' → WE Y elt (σ.set i (some (.int j))) M' fun y M2 => y = f j ∧ LeM M' M2)
    (q : ∀ D, M D = none → Q (.ref D) (updM M D (.lst ((List.range n).map f)))) (hR : ∀ u M', Fgt Q u M' → R u M') : Comp P w K mg base CX N sc' k elt i R n (fun j z => z = .int j) (fun _ => True) σ M := fun D hD => by
  obtain ⟨Pv, p0, ph, ps, pe⟩ := comp_pureR hz he q D hD
  exact ⟨Pv, p0, ph, ps, fun M' h => hR _ _ (pe M' h)⟩
end
end G3

set_option Elab.async false
set_option linter.all false
set_option maxRecDepth 100000
set_option maxHeartbeats 4000000
/-! L3: what no longer changes becomes a value by content; loops and comprehensions over anything that can be walked -/
namespace G3
open PySem PySem.Spec L2
/-! ### freezing -/
/-- the heap without p -/
def dropM (M : Mp) (p : Addr) : Mp := fun b => if b = p then none else M b
theorem dropM_at {M : Mp} {p : Addr} : dropM M p p = none := if_pos rfl
theorem dropM_le {M : Mp} {p : Addr} : LeM (dropM M p) M := fun x o e => by
  unfold dropM at e
  by_cases c : x = p
  · rw [if_pos c] at e; cases e
  · rw [if_neg c] at e; exact e
theorem le_dropM {M M0 : Mp} {p : Addr} (l : LeM M0 M) (n : M0 p = none) : LeM M0 (dropM M p) := fun x o e => by
  unfold dropM
  rw [if_neg (neM e n)]; exact l x o e

section
variable {K : PySem.W.Frag} {H : Hp} {M M0 : Mp} {p : Addr}
theorem TM.mut {u ho : HO} (h : H p = some u) (h1 : ∀ xs, u ≠ .tup xs) (h2 : ∀ o w, u ≠ .frz o w) : TM H (upd H p ho) :=
  ⟨fun c ys e => by
    rw [upd_ne (fun z => by subst z; rw [h] at e; exact h1 _ (Option.some.inj e))]; exact e,
   fun c ob w _ e => by
    rw [upd_ne (fun z => by subst z; rw [h] at e; exact h2 _ _ (Option.some.inj e))]; exact e⟩
theorem SimM.lockd {u : HO} (m : SimM K M H) (e : ∃ x, M p = some x) (l : LeM M0 M) (n : M0 p = none) (t : TM H (upd H p u)) : SimM K M0 (upd H p u) := fun a o q =>
  Ro.stay (M := M) (M' := M0) t (fun b hb => upd_nn hb) (fun v z => by rw [upd_ne (neM q n)]; exact z)
    (fun b v hb z => ⟨by rw [upd_ne (fun w => by subst w; obtain ⟨x, e⟩ := e; rw [hb] at e; cases e)]; exact z, by
      cases w : M0 b with
      | none => rfl
      | some o => rw [l b o w] at hb; cases hb⟩)
    (fun b hb => l b _ hb) (m a o (l a o q))
theorem Rkv.split {κ : Type} {xs : List (κ × V)} {kvs : List (κ × VV)} (h : Rkv K H xs kvs) : xs.map (·.1) = kvs.map (·.1) ∧ Rvs K H (xs.map (·.2)) (kvs.map (·.2)) := by
  induction h with
  | nil => exact ⟨rfl, .nil⟩
  | cons r _ ih => exact ⟨by rw [List.map_cons, List.map_cons, ih.1], .cons r ih.2⟩
theorem Rkv.join {κ : Type} {xs : List (κ × V)} : ∀ {kvs : List (κ × VV)}, xs.map (·.1) = kvs.map (·.1) → Rvs K H (xs.map (·.2)) (kvs.map (·.2)) → Rkv K H xs kvs := by
  induction xs with
  | nil =>
    intro kvs h1 h2
    cases kvs with
    | nil => exact .nil
    | cons z zs => cases h1
  | cons x xs ih =>
    intro kvs h1 h2
    cases kvs with
    | nil => cases h1
    | cons z zs =>
      rw [List.map_cons, List.map_cons] at h1 h2
      cases h2 with
      | cons r1 r2 =>
        obtain ⟨k, v⟩ := x
        obtain ⟨k', w⟩ := z
        injection h1 with h1 h3
        cases h1
        exact .cons r1 (ih h3 r2)
/-- what an object of the walk's becomes, once it stays -/
inductive Fz : MO → VV → Prop
  | lst (ws) : Fz (.lst ws) (.seq ws)
theorem Fz.go {o : MO} {w : VV} (f : Fz o w) (m : SimM K M H) (e : M p = some o) (l : LeM M0 M) (n : M0 p = none) : ∃ u, H p = some u ∧ Mut (some u) ∧ ∀ ob, TM H (upd H p (.frz ob u)) ∧ SimM K M0 (upd H p (.frz ob u)) ∧ Rv K (upd H p (.frz ob u)) (.ref p) w := by
  cases f with
  | lst ws =>
    obtain ⟨vs, hv, rv⟩ := m _ _ e
    exact ⟨_, hv, trivial, fun ob => ⟨TM.lst hv, m.lockd ⟨_, e⟩ l n (TM.lst hv), .seq (.inl ⟨ob, upd_same⟩) (Rvs.mono (TM.lst hv) _ _ rv)⟩⟩
end
section
variable {X : Cx} {a b c e tg : Expr} {es : List Expr} {σ : St3} {M : Mp} {Q : VQ} {D : En} {pos : Pos} {x : Str} {i : Nat}
variable {P : Program} {w : World} {K : PySem.W.Frag} {mg : Str → Option Value} {base : Heap} {CX : CXT} {N : List Str} {sc : Scope} {fl : Bool} {k : Nat}
theorem wE.lockd {σ' : St} {H : Hp} {Q Q' : VK} (h : wE X e σ' H Q') (k : ∀ v H1, Q' v H1 → ∃ d u, H1 d = some u ∧ Mut (some u) ∧ ∀ o, Q v (upd H1 d (.frz o u))) : wE X e σ' H Q := fun pins s I => thn (h pins s I) fun _ _ ⟨v, H1, I1, r, q⟩ =>
  let ⟨d, u, hd, mu, q⟩ := k v H1 q
  let ⟨o, I2⟩ := I1.lock hd mu
  ⟨v, _, I2, r, q o⟩
/-- a new object that stays as it is from here on -/
theorem we_frz (h : WE X e σ M fun u M1 => ∃ p o w M0, u = .ref p ∧ M1 p = some o ∧ Fz o w ∧ LeM M0 M1 ∧ M0 p = none ∧ Q w M0) : WE X e σ M Q := fun σ' H s m =>
  wE.lockd (h σ' H s m) fun v H1 ⟨w', M1, t, m1, r, p, o, w, M0, ew, e, f, l, n, q⟩ => by
    subst ew; cases r
    obtain ⟨u, hu, mu, hh⟩ := f.go m1 e l n
    refine ⟨p, u, hu, mu, fun ob => ?_⟩
    obtain ⟨t', m', r'⟩ := hh ob
    exact ⟨w, M0, t.trans t', m', r', q⟩
theorem Slots.reset {K : PySem.W.Frag} {H : Hp} {σ' : St} {p : Addr} {w : VV} (s : Slots K H σ' σ) (hs : σ[i]? = some (some (.ref p))) (r : Rv K H (.ref p) w) : Slots K H σ' (σ.set i (some w)) := by
  refine ⟨by simp [s.len], fun j u e => ?_⟩
  by_cases h : i = j
  · subst h
    have hl : i < σ.length := (List.getElem?_eq_some_iff.mp hs).1
    rw [List.getElem?_set_self hl] at e
    cases e
    obtain ⟨v, hv, rv⟩ := s.get i _ hs
    cases rv
    exact ⟨_, hv, r⟩
  · rw [List.getElem?_set_ne h] at e
    exact s.get j u e
/-- what the i-th name holds stays as it is from here on -/
theorem wss_frz {sts : List Stmt} {p : Addr} {o : MO} {w : VV} {M0 : Mp} (i : Nat) (hs : σ[i]? = some (some (.ref p))) (hp : M p = some o) (f : Fz o w) (l : LeM M0 M) (n : M0 p = none) (h : WSs X sts (σ.set i (some w)) M0 D) : WSs X sts σ M D := fun σ' H s m pins st I => by
  obtain ⟨u, hu, mu, hh⟩ := f.go m hp l n
  obtain ⟨ob, I2⟩ := I.lock hu mu
  obtain ⟨t', m', r'⟩ := hh ob
  exact (h.at t' ((s.mono t').reset hs r') m') pins st I2
/-! ### anything that can be walked -/
def wI (X : Cx) (tg e : Expr) : TI := fun σ H R => ∀ pins s, Inv X pins σ H s → wpAny (model X.prog X.w) X.A (eval e X.env) (fun v s1 => wpAny (model X.prog X.w) X.A (pyIter v) (PIE X pins σ tg R) X.xe s1) X.xe s
theorem wI.pi : PI X tg e (wI X tg e) := ⟨fun pins s σ H R I h => h pins s I⟩
theorem wI.of {wi : TI} {σ' : St} {H : Hp} {R : It → Hp → Prop} (p : PI X tg e wi) (h : wi σ' H R) : wI X tg e σ' H R := fun pins s I => p.run pins s σ' H R I h
theorem wI.mono {σ' : St} {H : Hp} {R R' : It → Hp → Prop} (h : wI X tg e σ' H R) (k : ∀ J H1, R J H1 → R' J H1) : wI X tg e σ' H R' := fun pins s I =>
  thn (h pins s I) fun _ _ z => thn z fun _ _ ⟨it, fp, tn, J, H', e, I', T, h0, hf, r⟩ => ⟨it, fp, tn, J, H', e, I', T, h0, hf, k _ _ r⟩
/-- how many turns, what each gives, what has to hold of the heap meanwhile -/
structure It3 where
  n : Nat
  item : Nat → VV → Prop
  hold : Mp → Prop
def Goes (K : PySem.W.Frag) (J : It) (it : It3) (H0 : Hp) : Prop := ∀ i M H, TM H0 H → SimM K M H → it.hold M → i ≤ it.n →
  (i = it.n ∧ J.stop i H) ∨ (i < it.n ∧ J.go i H ∧ ∀ x H', J.yld i H x H' → ∃ w, it.item i w ∧ TM H H' ∧ SimM K M H' ∧ Rv K H' x w)
def WI (X : Cx) (tg e : Expr) (σ : St3) (M : Mp) (R : It3 → Mp → Prop) : Prop := ∀ σ' H, Slots X.K H σ' σ → SimM X.K M H → wI X tg e σ' H fun J H1 => ∃ it M1, TM H H1 ∧ SimM X.K M1 H1 ∧ Goes X.K J it H1 ∧ R it M1
theorem ws_for (B : Bd P w K mg base CX N sc fl k X) {body : List Stmt} (h : WI X tg e σ M fun it M1 => Turns X tg body D it.n it.item it.hold σ M1)
    (hs : ∀ x, foldedSetIterable e X.env x = pure x := by intro _; rfl) : WS X (.For tg e body [] pos) σ M D := fun σ' H s m =>
  wS.of (ps_for B.own B.calm wI.pi wG.pg wSs.pss hs) ((h σ' H s m).mono fun J H1 ⟨it, M1, t1, m1, goes, Pv, p0, ph, ps, pe⟩ => by
    refine ⟨fun i n σ2 H2 => n = it.n - i ∧ i ≤ it.n ∧ PoS X.K H1 (Pv i) σ2 H2, ⟨_, rfl, Nat.zero_le _, σ, M1, TM.refl, s.mono t1, m1, p0⟩, ?_⟩
    rintro i n σ2 H2 ⟨rfl, hi, σ3, M3, t3, s3, m3, p3⟩
    rcases goes i M3 H2 t3 m3 (ph i σ3 M3 hi p3) hi with ⟨e, st⟩ | ⟨hlt, hgo, hy⟩
    · subst e
      exact .inl ⟨st, σ3, M3, t1.trans t3, s3, m3, pe σ3 M3 p3⟩
    · refine .inr ⟨hgo, PoS X.K H1 (Pv (i + 1)), fun σ' H' z => ⟨_, by omega, rfl, hlt, z⟩, fun y H' hy' => ?_⟩
      obtain ⟨w, hw, tT, m4, rw⟩ := hy y H' hy'
      exact ((ps i w σ3 M3 hlt hw p3).at (t3.trans tT) (s3.mono tT) m4 rw).mono fun σ4 H4 ⟨σ5, M5, t5, s5, m5, q5⟩ => (q5.at t5 s5 m5).mono (fun _ _ z => z) (fun _ _ z => PoR.tr t1 z) (fun _ _ z => PoS.tr t1 z) (fun _ _ z => z))
/-! what is walked -/
def itL (u : VV) (ws : List VV) : It3 := ⟨ws.length, fun i v => ws[i]? = some v, fun M => Lst M u ws⟩
def itT (ws : List VV) : It3 := ⟨ws.length, fun i v => ws[i]? = some v, fun _ => True⟩
def itR (lo : Int) (n : Nat) : It3 := ⟨n, fun i v => v = .int (lo + i), fun _ => True⟩
theorem wi_lst (h : WE X e σ M fun u M1 => ∃ ws, Lst M1 u ws ∧ R (itL u ws) M1) : WI X tg e σ M R := fun σ' H s m =>
  wI.of (pi_list wE.pe) (h.run s m fun v H1 u M1 t1 m1 r1 s1 ⟨ws, hl, q⟩ => by
    obtain ⟨a, vs, rfl, h1, h2⟩ := hl.v m1 r1
    refine ⟨a, rfl, ⟨vs, h1⟩, _, M1, t1, m1, ?_, q⟩
    intro i M2 H2 t2 m2 hh hi
    obtain ⟨a', vs2, e', q1, q2⟩ := (show Lst M2 u ws from hh).v m2 (Rv.mono t2 _ _ r1)
    cases e'
    have hlen := q2.length
    change i ≤ ws.length at hi
    by_cases hlt : i < ws.length
    · obtain ⟨x, hx, rx⟩ := q2.get (i := i) (w := ws[i]) (by simp [hlt])
      refine .inr ⟨hlt, ⟨vs2, x, q1, hx⟩, fun y H' hy => ?_⟩
      obtain ⟨rfl, hy⟩ := hy
      have ey := hy vs2 q1
      rw [hx] at ey
      cases ey
      exact ⟨ws[i], by show ws[i]? = _; simp [hlt], TM.refl, m2, rx⟩
    · exact .inl ⟨by show i = ws.length; omega, vs2, q1, by omega⟩)
theorem wi_tup (h : WE X e σ M fun u M1 => ∃ ws, u = .tup ws ∧ R (itT ws) M1) : WI X tg e σ M R := fun σ' H s m =>
  wI.of (pi_tup wE.pe) (h.run s m fun v H1 u M1 t1 m1 r1 s1 ⟨ws, hu, q⟩ => by
    subst hu
    obtain ⟨a, vs, rfl, h1, h2⟩ := r1.tupv
    refine ⟨a, rfl, ⟨vs, h1⟩, _, M1, t1, m1, ?_, q⟩
    intro i M2 H2 t2 m2 hh hi
    have q1 := SqT.mono t2 h1
    have q2 := Rvs.mono t2 _ _ h2
    have hlen := q2.length
    change i ≤ ws.length at hi
    by_cases hlt : i < ws.length
    · obtain ⟨x, hx, rx⟩ := q2.get (i := i) (w := ws[i]) (by simp [hlt])
      refine .inr ⟨hlt, ⟨vs, x, q1, hx⟩, fun y H' hy => ?_⟩
      obtain ⟨rfl, hy⟩ := hy
      have ey := hy vs q1
      rw [hx] at ey
      cases ey
      exact ⟨ws[i], by show ws[i]? = _; simp [hlt], TM.refl, m2, rx⟩
    · exact .inl ⟨by show i = ws.length; omega, vs, q1, by omega⟩)
theorem goes_rng {lo : Int} {n : Nat} {K : PySem.W.Frag} {H : Hp} : Goes K (Itr lo n) (itR lo n) H := by
  intro i M2 H2 t2 m2 hh hi
  change i ≤ n at hi
  by_cases hlt : i < n
  · refine .inr ⟨hlt, hlt, fun y H' hy => ?_⟩
    obtain ⟨rfl, rfl⟩ := hy
    exact ⟨_, rfl, TM.refl, m2, .int _⟩
  · exact .inl ⟨by show i = n; omega, by show n ≤ i; omega⟩
theorem wi_range1 (B : Bd P w K mg base CX N sc fl k X) {p pos' : Pos} (hg : sc.names.lookup ("range" : Str) = some .globalImplicit) (hm : mg "range" = none)
    (h : WA X [a] σ M fun us M1 => ∃ j : Int, us = [.int j] ∧ (-(2 ^ 62) ≤ j ∧ j < 2 ^ 62) ∧ R (itR 0 j.toNat) M1)
    (hsp : starEach [a] X.env = [(false, eval a X.env)] := by rfl) : WI X tg (.Call (.Name "range" p) [a] [] pos') σ M R := fun σ' H s m =>
  wI.of (pi_range1 (by show X.env.scope.names.lookup _ = _; rw [B.esc]; exact hg) (by rw [B.emg]; exact hm) wA.pa hsp) (h.run s m fun vs H1 us M1 t1 m1 r1 s1 ⟨j, e, ⟨l1, l2⟩, q⟩ => by
    subst e
    cases r1 with | cons r1 r2 =>
    cases r1; cases r2
    exact ⟨j, rfl, l1, l2, _, M1, t1, m1, goes_rng, q⟩)
theorem wi_range2 (B : Bd P w K mg base CX N sc fl k X) {p pos' : Pos} (hg : sc.names.lookup ("range" : Str) = some .globalImplicit) (hm : mg "range" = none)
    (h : WA X [a, b] σ M fun us M1 => ∃ i j : Int, us = [.int i, .int j] ∧ (-(2 ^ 62) ≤ i ∧ i < 2 ^ 62 ∧ -(2 ^ 62) ≤ j ∧ j < 2 ^ 62) ∧ R (itR i (j - i).toNat) M1)
    (hsp : starEach [a, b] X.env = [(false, eval a X.env), (false, eval b X.env)] := by rfl) (hsp2 : starEach [b] X.env = [(false, eval b X.env)] := by rfl) : WI X tg (.Call (.Name "range" p) [a, b] [] pos') σ M R := fun σ' H s m =>
  wI.of (pi_range2 (by show X.env.scope.names.lookup _ = _; rw [B.esc]; exact hg) (by rw [B.emg]; exact hm) wA.pa hsp hsp2) (h.run s m fun vs H1 us M1 t1 m1 r1 s1 ⟨i, j, e, l, q⟩ => by
    subst e
    cases r1 with | cons r1 r2 => cases r2 with | cons r2 r3 =>
    cases r1; cases r2; cases r3
    exact ⟨i, j, rfl, l, _, M1, t1, m1, goes_rng, q⟩)
def itZ (u u2 : VV) (ws ws2 : List VV) : It3 := ⟨min ws.length ws2.length, fun i v => ∃ w w2, ws[i]? = some w ∧ ws2[i]? = some w2 ∧ v = .tup [w, w2], fun M => Lst M u ws ∧ Lst M u2 ws2⟩
theorem wi_zip (B : Bd P w K mg base CX N sc fl k X) {e2 : Expr} {p pos' tpos : Pos} {elts : List Expr} {kk : Nat} (hg : sc.names.lookup ("zip" : Str) = some .globalImplicit) (hm : mg "zip" = none)
    (h : WA X [e, e2] σ M fun us M1 => ∃ u u2 ws ws2, us = [u, u2] ∧ Lst M1 u ws ∧ Lst M1 u2 ws2 ∧ R (itZ u u2 ws ws2) M1)
    (hst : starEach [e, e2] X.env = (false, eval e X.env) :: starEach [e2] X.env := by rfl) (hpl : (backTo pos' (starEach [e2] X.env)).any (·.1) = false := by rfl) : WI X (.Tuple elts kk tpos) (.Call (.Name "zip" p) [e, e2] [] pos') σ M R := fun σ' H s m =>
  wI.of (pi_zip (by show X.env.scope.names.lookup _ = _; rw [B.esc]; exact hg) (by rw [B.emg]; exact hm) wA.pa hst hpl) (h.run s m fun vs0 H1 us M1 t1 m1 r1 s1 ⟨u, u2, ws, ws2, eus, hl, hl2, q⟩ => by
    subst eus
    cases r1 with | cons r1 r2 =>
    cases r2 with | cons r2 r3 =>
    cases r3
    obtain ⟨a, vs, rfl, h1, h2⟩ := hl.v m1 r1
    obtain ⟨a2, vs2, rfl, h12, h22⟩ := hl2.v m1 r2
    refine ⟨a, a2, vs, vs2, rfl, h1, h12, _, M1, t1, m1, ?_, q⟩
    intro i M2 H2 t2 m2 hh hi
    obtain ⟨hh1, hh2⟩ := (show Lst M2 u ws ∧ Lst M2 u2 ws2 from hh)
    obtain ⟨a', xs, e', q1, rv⟩ := hh1.v m2 (Rv.mono t2 _ _ r1)
    obtain ⟨a'', xs2, e'', q12, rv2⟩ := hh2.v m2 (Rv.mono t2 _ _ r2)
    cases e'; cases e''
    have hlen := rv.length
    have hlen2 := rv2.length
    change i ≤ min ws.length ws2.length at hi
    by_cases hlt : i < min ws.length ws2.length
    · have hlt1 : i < ws.length := by omega
      have hlt2 : i < ws2.length := by omega
      obtain ⟨x, hx, rx⟩ := rv.get (i := i) (w := ws[i]) (by simp [hlt1])
      obtain ⟨x2, hx2, rx2⟩ := rv2.get (i := i) (w := ws2[i]) (by simp [hlt2])
      refine .inr ⟨hlt, ⟨xs, xs2, x, x2, q1, q12, hx, hx2⟩, fun y H' hy => ?_⟩
      obtain ⟨T, x', y', rfl, hT, rfl, hy, hy2⟩ := hy
      have ey := hy xs q1
      have ey2 := hy2 xs2 q12
      rw [hx] at ey
      rw [hx2] at ey2
      cases ey
      cases ey2
      have tT : TM H2 (upd H2 T (.tup [x, x2])) := TM.fresh hT
      exact ⟨_, ⟨ws[i], ws2[i], by simp [hlt1], by simp [hlt2], rfl⟩, tT, m2.alloc hT, .tup (SqT.of upd_same) (.cons (Rv.mono tT _ _ rx) (.cons (Rv.mono tT _ _ rx2) .nil))⟩
    · exact .inl ⟨by show i = min ws.length ws2.length; omega, xs, xs2, q1, q12, by omega⟩)
def itE (u : VV) (ws : List VV) : It3 := ⟨ws.length, fun i v => ∃ w, ws[i]? = some w ∧ v = .tup [.int i, w], fun M => Lst M u ws⟩
theorem wi_enum (B : Bd P w K mg base CX N sc fl k X) {p pos' tpos : Pos} {elts : List Expr} {kk : Nat} (hg : sc.names.lookup ("enumerate" : Str) = some .globalImplicit) (hm : mg "enumerate" = none)
    (h : WA X [e] σ M fun us M1 => ∃ u ws, us = [u] ∧ Lst M1 u ws ∧ R (itE u ws) M1) (hsp : starEach [e] X.env = [(false, eval e X.env)] := by rfl) : WI X (.Tuple elts kk tpos) (.Call (.Name "enumerate" p) [e] [] pos') σ M R := fun σ' H s m =>
  wI.of (pi_enum (by show X.env.scope.names.lookup _ = _; rw [B.esc]; exact hg) (by rw [B.emg]; exact hm) wA.pa hsp) (h.run s m fun vs0 H1 us M1 t1 m1 r1 s1 ⟨u, ws, eus, hl, q⟩ => by
    subst eus
    cases r1 with | cons r1 r2 =>
    cases r2
    obtain ⟨a, vs, rfl, h1, h2⟩ := hl.v m1 r1
    refine ⟨a, vs, rfl, h1, _, M1, t1, m1, ?_, q⟩
    intro i M2 H2 t2 m2 hh hi
    obtain ⟨a', xs, e', q1, rv⟩ := (show Lst M2 u ws from hh).v m2 (Rv.mono t2 _ _ r1)
    cases e'
    have hlen := rv.length
    change i ≤ ws.length at hi
    by_cases hlt : i < ws.length
    · obtain ⟨x, hx, rx⟩ := rv.get (i := i) (w := ws[i]) (by simp [hlt])
      refine .inr ⟨hlt, ⟨xs, x, q1, hx⟩, fun y H' hy => ?_⟩
      obtain ⟨T, x', rfl, hT, rfl, hy⟩ := hy
      have ey := hy xs q1
      rw [hx] at ey
      cases ey
      have tT : TM H2 (upd H2 T (.tup [.int (i : Nat), x])) := TM.fresh hT
      exact ⟨_, ⟨ws[i], by simp [hlt], rfl⟩, tT, m2.alloc hT, .tup (SqT.of upd_same) (.cons (.int _) (.cons (Rv.mono tT _ _ rx) .nil))⟩
    · exact .inl ⟨by show i = ws.length; omega, xs, q1, by omega⟩)
/-! dicts that stay -/
theorem kv_rv {K : PySem.W.Frag} {H : Hp} (k : Key) : Rv K H (kV k) (match k with | .inl i => .int i | .inr s => .str s) := by
  cases k with
  | inl i => exact .int i
  | inr s => exact .str s
/-- a key as a value -/
def kW : Key → VV
  | .inl i => .int i
  | .inr s => .str s
theorem rv_kW {K : PySem.W.Frag} {H : Hp} : ∀ k : Key, Rv K H (kV k) (kW k)
  | .inl i => .int i
  | .inr s => .str s
def itKeys (ks : List Key) : It3 := ⟨ks.length, fun i v => ∃ k, ks[i]? = some k ∧ v = kW k, fun _ => True⟩
def itVals (ws : List VV) : It3 := ⟨ws.length, fun i v => ws[i]? = some v, fun _ => True⟩
def itItems (ks : List Key) (ws : List VV) : It3 := ⟨ks.length, fun i v => ∃ k w, ks[i]? = some k ∧ ws[i]? = some w ∧ v = .tup [kW k, w], fun _ => True⟩
/-! ### comprehensions, their targets names of their own -/
def wipeA {α : Type} (σ : List (Option α)) : List Nat → List (Option α)
  | [] => σ
  | v :: vs => (wipeA σ vs).set v none
def putA {α : Type} (σ : List (Option α)) : List Nat → List α → List (Option α)
  | i :: is, u :: us => putA (σ.set i (some u)) is us
  | _, _ => σ
theorem wipe_eq (σ' : St) : ∀ vs, wipe σ' vs = wipeA σ' vs
  | [] => rfl
  | v :: vs => by
    show (wipe σ' vs).set v none = (wipeA σ' vs).set v none
    rw [wipe_eq σ' vs]
theorem wipeA_len {α : Type} (σ : List (Option α)) : ∀ vs, (wipeA σ vs).length = σ.length
  | [] => rfl
  | v :: vs => by
    show ((wipeA σ vs).set v none).length = _
    rw [List.length_set, wipeA_len σ vs]
theorem putA_len {α : Type} : ∀ (is : List Nat) (us : List α) (σ : List (Option α)), (putA σ is us).length = σ.length
  | [], _, _ => rfl
  | _ :: _, [], _ => rfl
  | i :: is, u :: us, σ => by
    show (putA (σ.set i (some u)) is us).length = _
    rw [putA_len is us, List.length_set]
theorem putA_out {α : Type} {j : Nat} : ∀ (is : List Nat) (us : List α) (σ : List (Option α)), j ∉ is → (putA σ is us)[j]? = σ[j]?
  | [], _, _, _ => rfl
  | _ :: _, [], _, _ => rfl
  | i :: is, u :: us, σ, h => by
    show (putA (σ.set i (some u)) is us)[j]? = _
    rw [putA_out is us _ (fun z => h (List.mem_cons_of_mem _ z)), List.getElem?_set_ne (fun z => h (by rw [z]; exact List.mem_cons_self))]
theorem wipeA_out {α : Type} {j : Nat} (σ : List (Option α)) : ∀ vs, j ∉ vs → (wipeA σ vs)[j]? = σ[j]?
  | [], _ => rfl
  | v :: vs, h => by
    show ((wipeA σ vs).set v none)[j]? = _
    rw [List.getElem?_set_ne (fun z => h (by rw [z]; exact List.mem_cons_self)), wipeA_out σ vs (fun z => h (List.mem_cons_of_mem _ z))]
theorem wipeA_in {α : Type} {j : Nat} (σ : List (Option α)) (hj : j < σ.length) : ∀ vs, j ∈ vs → (wipeA σ vs)[j]? = some none
  | [], h => by cases h
  | v :: vs, h => by
    show ((wipeA σ vs).set v none)[j]? = _
    by_cases e : v = j
    · subst e
      rw [List.getElem?_set_self (by rw [wipeA_len]; exact hj)]
    · rw [List.getElem?_set_ne e]
      exact wipeA_in σ hj vs ((List.mem_cons.mp h).resolve_left fun z => e z.symm)
theorem wipe_put {α : Type} (σ : List (Option α)) (own : List Nat) (us : List α) : wipeA (putA (wipeA σ own) own us) own = wipeA σ own := by
  refine List.ext_getElem? fun j => ?_
  by_cases hl : j < σ.length
  · by_cases hj : j ∈ own
    · rw [wipeA_in _ (by rw [putA_len, wipeA_len]; exact hl) own hj, wipeA_in _ hl own hj]
    · rw [wipeA_out _ own hj, putA_out own us _ hj]
  · rw [List.getElem?_eq_none (by rw [wipeA_len, putA_len, wipeA_len]; omega), List.getElem?_eq_none (by rw [wipeA_len]; omega)]
theorem Slots.wipe {K : PySem.W.Frag} {H : Hp} {σ' : St} (s : Slots K H σ' σ) : ∀ vs, Slots K H (wipeA σ' vs) (wipeA σ vs)
  | [] => s
  | v :: vs => by
    have ih := Slots.wipe s vs
    refine ⟨by show ((wipeA σ' vs).set v none).length = ((wipeA σ vs).set v none).length; rw [List.length_set, List.length_set]; exact ih.len, fun j u e => ?_⟩
    change ((wipeA σ vs).set v none)[j]? = _ at e
    show ∃ x, ((wipeA σ' vs).set v none)[j]? = _ ∧ _
    by_cases h : v = j
    · subst h
      have hl : v < (wipeA σ vs).length := by
        have := (List.getElem?_eq_some_iff.mp e).1; rwa [List.length_set] at this
      rw [List.getElem?_set_self hl] at e
      cases e
    · rw [List.getElem?_set_ne h] at e ⊢
      exact ih.get j u e
theorem Slots.putA {K : PySem.W.Frag} {H : Hp} : ∀ (is : List Nat) (us : List VV) {vs : List V} {σ' : St} {σ : St3}, Slots K H σ' σ → Rvs K H vs us → Slots K H (putA σ' is vs) (putA σ is us)
  | [], _, _, _, _, s, _ => s
  | _ :: _, [], _, _, _, s, r => by cases r; exact s
  | i :: is, u :: us, _, σ', σ, s, r => by
    cases r with
    | cons r1 r2 => exact Slots.putA is us (s.set i r1) r2
/-- what a comprehension's target takes of an item -/
structure CTg (K : PySem.W.Frag) (g : TG) (own : List Nat) (sel : VV → List VV → Prop) : Prop where
  run : ∀ (σ' : St) (H : Hp) (x : V) (w : VV) (us : List VV) (Z : St → Hp → Prop), Rv K H x w → sel w us → (∀ vs, Rvs K H vs us → Z (putA σ' own vs) H) → g x σ' H Z
theorem ctg_name {K : PySem.W.Frag} {i : Nat} : CTg K (gName i) [i] (fun w us => us = [w]) := ⟨fun σ' H x w us Z r e h => by
  subst e
  exact h [x] (.cons r .nil)⟩
def CTgs (K : PySem.W.Frag) (t : TGs) (own : List Nat) (sel : List VV → List VV → Prop) : Prop := ∀ (σ' : St) (H : Hp) (xs : List V) (ws us : List VV) (Z : St → Hp → Prop), Rvs K H xs ws → sel ws us → (∀ vs, Rvs K H vs us → Z (putA σ' own vs) H) → t xs σ' H Z
theorem ctgs_nil {K : PySem.W.Frag} : CTgs K gNil [] (fun ws us => ws = [] ∧ us = []) := fun σ' H xs ws us Z r e h => by
  obtain ⟨rfl, rfl⟩ := e
  cases r
  exact ⟨rfl, h [] .nil⟩
theorem putA_app {α : Type} : ∀ (is : List Nat) (us : List α) (js : List Nat) (vs : List α) (σ : List (Option α)), is.length = us.length → putA (putA σ is us) js vs = putA σ (is ++ js) (us ++ vs)
  | [], [], _, _, _, _ => rfl
  | [], _ :: _, _, _, _, h => by cases h
  | _ :: _, [], _, _, _, h => by cases h
  | i :: is, u :: us, js, vs, σ, h => putA_app is us js vs (σ.set i (some u)) (by simpa using h)
/-- one by one -/
theorem ctgs_cons {K : PySem.W.Frag} {t : TG} {ts : TGs} {own owns : List Nat} {sel : VV → List VV → Prop} {sels : List VV → List VV → Prop} (h1 : CTg K t own sel) (hl : ∀ w us, sel w us → us.length = own.length) (h2 : CTgs K ts owns sels) :
    CTgs K (gCons t ts) (own ++ owns) (fun ws us => ∃ w wr u1 u2, ws = w :: wr ∧ us = u1 ++ u2 ∧ sel w u1 ∧ sels wr u2) := fun σ' H xs ws us Z r e h => by
  obtain ⟨w, wr, u1, u2, rfl, rfl, e1, e2⟩ := e
  cases r with
  | cons r1 r2 =>
    exact ⟨_, _, rfl, h1.run σ' H _ w u1 _ r1 e1 fun v1 rv1 => h2 _ H _ wr u2 _ r2 e2 fun v2 rv2 => by
      rw [putA_app own v1 owns v2 σ' (by rw [rv1.length]; exact (hl _ _ e1).symm)]
      exact h _ (rv1.append rv2)⟩
theorem ctg_tup {K : PySem.W.Frag} {t : TGs} {n : Nat} {own : List Nat} {sels : List VV → List VV → Prop} (h : CTgs K t own sels) : CTg K (gTup K n t) own (fun w us => ∃ ws, w = .tup ws ∧ ws.length = n ∧ sels ws us) := ⟨fun σ' H x w us Z r e hz => by
  obtain ⟨ws, rfl, hn, e⟩ := e
  obtain ⟨a, vs, rfl, h1, h2⟩ := r.tupv
  exact ⟨a, vs, rfl, h1, by rw [h2.length]; exact hn, h _ _ _ _ _ _ h2 e hz⟩⟩
/-- what the block of [elt for tg in .. if c] is to do: the new list at D -/
def CompI (P : Program) (w : World) (K : PySem.W.Frag) (mg : Str → Option Value) (base : Heap) (CX : CXT) (N : List Str) (sc' : Scope) (k : Nat) (elt : Expr) (ifs : List Expr) (own : List Nat) (sel : VV → List VV → Prop) (Q : VQ) (it : It3) (σ : St3) (M : Mp) : Prop := ∀ D, M D = none → ∃ Pv : Nat → Mp → Prop, Pv 0 (updM M D (.lst [])) ∧ (∀ j M, j ≤ it.n → Pv j M → it.hold M) ∧
  (∀ j u M, j < it.n → it.item j u → Pv j M → ∃ us, sel u us ∧ ∀ Y : Cx, Bd P w K mg base CX N sc' false k Y →
    let go : Mp → Prop := fun M1 => ∀ Y' : Cx, Bd P w K mg base CX N sc' false k Y' → WE Y' elt (putA (wipeA σ own) own us) M1 fun y M2 => ∃ acc, M2 D = some (.lst acc) ∧ acc.length < sizeLine ∧ Pv (j + 1) (updM M2 D (.lst (acc ++ [y])))
    match ifs with
    | [] => go M
    | [c] => WT Y c (putA (wipeA σ own) own us) M fun t M1 => if t = true then go M1 else Pv (j + 1) M1
    | _ => False) ∧ ∀ M, Pv it.n M → Q (.ref D) M
def ttI (X : Cx) (scope : Scope) : List Expr → TT
  | [c] => ttB X scope c
  | _ => tYes
theorem lcI_read (B : Bd P w K mg base CX N sc fl k X) {elt : Expr} {ifs : List Expr} {scope : Scope} {own : List Nat} {g : TG} {sel : VV → List VV → Prop} (ct : CTg K g own sel)
    (h : WI X tg e σ M fun it M1 => CompI P w K mg base CX N (scBlk scope sc) k elt ifs own sel Q it σ M1)
    {σ' : St} {H : Hp} (s : Slots X.K H σ' σ) (m : SimM X.K M H) {Qv : VK} (hQ : ∀ v H', PoE X.K H Q v H' → Qv v H') : tLc (wI X tg e) g (ttI X scope ifs) (teB X scope elt) own σ' H Qv := by
  refine (h σ' H s m).mono fun J H1 ⟨it, M1, t1, m1, goes, q1⟩ => ?_
  have s1 := s.mono t1
  intro D hD
  obtain ⟨Pv, p0, ph, ps, pe⟩ := q1 D (m1.no hD)
  have tD : TM H1 (upd H1 D (.lst [])) := TM.fresh hD
  refine ⟨fun j n H2 => n = it.n - j ∧ j ≤ it.n ∧ ∃ M2, TM H1 H2 ∧ SimM X.K M2 H2 ∧ Pv j M2, ⟨_, rfl, Nat.zero_le _, _, tD, m1.putL tD (.inl hD) .nil, p0⟩, ?_⟩
  rintro j n H2 ⟨rfl, hj, M2, t2, m2, p2⟩
  rcases goes j M2 H2 t2 m2 (ph j M2 hj p2) hj with ⟨ej, st⟩ | ⟨hlt, hgo, hy⟩
  · subst ej
    exact .inl ⟨st, hQ _ _ ⟨.ref D, M2, t1.trans t2, m2, .ref D, pe M2 p2⟩⟩
  · refine .inr ⟨hgo, fun H' => ∃ M', TM H1 H' ∧ SimM X.K M' H' ∧ Pv (j + 1) M', fun H' z => ⟨_, by omega, rfl, hlt, z⟩, fun y H' hy' => ?_⟩
    obtain ⟨u, hu, tT, m3, ru⟩ := hy y H' hy'
    obtain ⟨us, hs, hb⟩ := ps j u M2 hlt hu p2
    have hK := B.eK
    refine (show CTg X.K g own sel by rw [hK]; exact ct).run _ H' y u us _ ru hs fun vs rv => ⟨by rw [wipe_eq, wipe_eq, wipe_put], ?_⟩
    rw [wipe_eq]
    have s2 : Slots X.K H' (putA (wipeA σ' own) own vs) (putA (wipeA σ own) own us) := Slots.putA own us ((s1.mono (t2.trans tT)).wipe own) rv
    have run : ∀ {M4 : Mp} {H4 : Hp}, TM H' H4 → SimM X.K M4 H4 → (∀ Y' : Cx, Bd P w K mg base CX N (scBlk scope sc) false k Y' → WE Y' elt (putA (wipeA σ own) own us) M4 fun y M2 => ∃ acc, M2 D = some (.lst acc) ∧ acc.length < sizeLine ∧ Pv (j + 1) (updM M2 D (.lst (acc ++ [y])))) →
        teB X scope elt (putA (wipeA σ' own) own vs) H4 fun y H5 => ∃ acc, H5 D = some (.lst acc) ∧ acc.length < sizeLine ∧ ∃ M', TM H1 (upd H5 D (.lst (acc ++ [y]))) ∧ SimM X.K M' (upd H5 D (.lst (acc ++ [y]))) ∧ Pv (j + 1) M' := by
      intro M4 H4 t4 m4 hh s0 H0 C cl fp
      have Y' := B.blk s0 H0 scope C cl fp
      rw [B.rel] at Y'
      refine (hh _ Y' _ H4 (s2.mono t4) m4).mono fun y3 H5 ⟨w3, M5, t5, m5, r5, acc, e5, l5, p5⟩ => ?_
      obtain ⟨va, h5, h6⟩ := m5 _ _ e5
      exact ⟨va, h5, by rw [h6.length]; exact l5, _, (((t2.trans tT).trans t4).trans t5).trans (TM.lst h5), m5.putL (TM.lst h5) (.inr ⟨_, e5⟩) (h6.append (.cons r5 .nil)), p5⟩
    have Y0 := B.blk X.s_0 H' scope 0 [] []
    rw [B.rel] at Y0
    match ifs, hb with
    | [], hb =>
      have z := run TM.refl m3 (hb _ Y0)
      simp only [ttI, tYes, if_true]
      exact z
    | [c], hb =>
      show ∀ s0 H0 C cl fp, wT (X.blk s0 H0 scope (compEnvC scope cl C X.env) fp) c _ _ _
      intro s0 H0 C cl fp
      have Y := B.blk s0 H0 scope C cl fp
      rw [B.rel] at Y
      refine WT.run (hb _ Y) s2 m3 fun b H3 M3 t3 m4 s3 q3 => ?_
      cases b with
      | false => rw [if_neg Bool.false_ne_true] at q3 ⊢; exact ⟨M3, (t2.trans tT).trans t3, m4, q3⟩
      | true =>
        rw [if_pos rfl] at q3 ⊢
        exact run t3 m4 q3
    | _ :: _ :: _, hb => exact (hb _ Y0).elim
section
variable {elt : Expr} {ifs : List Expr} {scope : Scope} {own : List (Str × Nat)} {g : TG} {sel : VV → List VV → Prop}
theorem we_lc (B : Bd P w K mg base CX N sc fl k X) (own : List (Str × Nat)) (hok : blkC N sc scope own = true) (hif : ifs.length ≤ 1)
    (hg : ∀ (s0 : Shared) (H0 : Hp) (C : Addr) (cl : List (Str × Addr)) (fp : List Addr), PG (X.blk s0 H0 scope (compEnvC scope cl C X.env) fp) tg g) (ct : CTg K g (own.map (·.2)) sel)
    (h : WI X tg e σ M fun it M1 => CompI P w K mg base CX N (scBlk scope sc) k elt ifs (own.map (·.2)) sel Q it σ M1)
    (hs : ∀ x, foldedSetIterable e X.env x = pure x := by intro _; rfl) : WE X (.ListComp elt [⟨tg, e, ifs, 0⟩] scope pos) σ M Q := fun σ' H s m => by
  have ht : ∀ (s0 : Shared) (H0 : Hp) (C : Addr) (cl : List (Str × Addr)) (fp : List Addr), PTs (X.blk s0 H0 scope (compEnvC scope cl C X.env) fp) ifs (ttI X scope ifs) := fun s0 H0 C cl fp => by
    match ifs, hif with
    | [], _ => exact pts_nil
    | [c], _ => exact B.ptB s0 H0 C cl fp
    | _ :: _ :: _, hif => exact absurd hif (by simp)
  exact wE.of (pe_lc (own := own) (tt := ttI X scope ifs) (g := g) (te := teB X scope elt) B.calm (by rw [B.eN]; exact B.nd) wI.pi (by rw [B.eN, B.esc]; exact blkOk_by hok)
    hg ht (fun s0 H0 C cl fp => ⟨fun pins s σ H R I h => h s0 H0 C cl fp pins s I⟩) hs) (lcI_read B ct h s m fun _ _ z => z)
theorem ws_setLc (B : Bd P w K mg base CX N sc fl k X) (own : List (Str × Nat)) {spos : Pos} {y : Str} {py : Pos} {iy : Nat} (hiy : At N iy y) (hyl : sc.names.lookup y = some .local) (hsw : swapsWith (.ListComp elt [⟨tg, e, ifs, 0⟩] scope pos) (some (.Name y py)) spos.line (cenv sc) = pure true) (hok : blkC N sc scope own = true) (hif : ifs.length ≤ 1)
    (hg : ∀ (s0 : Shared) (H0 : Hp) (C : Addr) (cl : List (Str × Addr)) (fp : List Addr), PG (X.blk s0 H0 scope (compEnvC scope cl C X.env) fp) tg g) (ct : CTg K g (own.map (·.2)) sel)
    (h : WI X tg e σ M fun it M1 => CompI P w K mg base CX N (scBlk scope sc) k elt ifs (own.map (·.2)) sel (fun u M1 => D.nx (σ.set iy (some u)) M1) it σ M1)
    (hs : ∀ x, foldedSetIterable e X.env x = pure x := by intro _; rfl) : WS X (.Assign [.Name y py] (.ListComp elt [⟨tg, e, ifs, 0⟩] scope pos) spos) σ M D := fun σ' H s m => by
  have ht : ∀ (s0 : Shared) (H0 : Hp) (C : Addr) (cl : List (Str × Addr)) (fp : List Addr), PTs (X.blk s0 H0 scope (compEnvC scope cl C X.env) fp) ifs (ttI X scope ifs) := fun s0 H0 C cl fp => by
    match ifs, hif with
    | [], _ => exact pts_nil
    | [c], _ => exact B.ptB s0 H0 C cl fp
    | _ :: _ :: _, hif => exact absurd hif (by simp)
  exact wS.of (ps_setLc (i := iy) (own := own) (tt := ttI X scope ifs) (g := g) (te := teB X scope elt) B.calm (by rw [B.eN]; exact B.nd) (by rw [B.eN]; exact hiy.get) (by rw [B.esc]; exact hyl) (by rw [swWith_of (env' := cenv sc) (by rw [B.esc]; rfl)]; exact hsw) wI.pi (by rw [B.eN, B.esc]; exact blkOk_by hok)
    hg ht (fun s0 H0 C cl fp => ⟨fun pins s σ H R I h => h s0 H0 C cl fp pins s I⟩) hs) (lcI_read B ct h s m fun v H' ⟨u, M', t, m', r, q⟩ => ⟨_, M', t, (s.mono t).set iy r, m', q⟩)
/-- the targets: a name; two, three, four names -/
theorem pgI1 (B : Bd P w K mg base CX N sc fl k X) {px : Pos} (hi : At N i x) (hx : (scBlk scope sc).names.lookup x = some .local) : ∀ (s0 : Shared) (H0 : Hp) (C : Addr) (cl : List (Str × Addr)) (fp : List Addr), PG (X.blk s0 H0 scope (compEnvC scope cl C X.env) fp) (.Name x px) (gName i) := fun s0 H0 C cl fp => B.pgB hi hx s0 H0 C cl fp
end
end
end G3

set_option Elab.async false
set_option linter.all false
set_option maxRecDepth 100000
set_option maxHeartbeats 4000000
/-! L3: comprehensions item by item; sorted -/
namespace G3
open PySem PySem.Spec L2
/-- item by item, some left out -/
inductive FR {α β : Type} (T : α → Bool → Prop) (G : α → β → Prop) : List α → List β → Prop
  | nil : FR T G [] []
  | skip {z : α} {zs : List α} {ys : List β} : T z false → FR T G zs ys → FR T G (z :: zs) ys
  | take {z : α} {zs : List α} {y : β} {ys : List β} : T z true → G z y → FR T G zs ys → FR T G (z :: zs) (y :: ys)
section
variable {α β : Type} {T : α → Bool → Prop} {G : α → β → Prop}
theorem FR.append {xs zs : List α} {ys us : List β} (h : FR T G xs ys) (k : FR T G zs us) : FR T G (xs ++ zs) (ys ++ us) := by
  induction h with
  | nil => exact k
  | skip t _ ih => exact .skip t ih
  | take t g _ ih => exact .take t g ih
theorem FR.len {xs : List α} {ys : List β} (h : FR T G xs ys) : ys.length ≤ xs.length := by
  induction h with
  | nil => exact Nat.le_refl _
  | skip t _ ih => exact Nat.le_succ_of_le ih
  | take t g _ ih => exact Nat.succ_le_succ ih
theorem FR.pure {t : α → Bool} {f : α → β} {xs : List α} {ys : List β} (h : FR (fun z b => b = t z) (fun z y => y = f z) xs ys) : ys = (xs.filter t).map f := by
  induction h with
  | nil => rfl
  | @skip z zs ys e _ ih => rw [List.filter_cons_of_neg (by rw [← e]; exact Bool.false_ne_true)]; exact ih
  | @take z zs y ys e g _ ih => rw [List.filter_cons_of_pos e.symm, List.map_cons, ih, g]
theorem FR.all {f : α → β} {xs : List α} {ys : List β} (h : FR (fun _ b => b = true) (fun z y => y = f z) xs ys) : ys = xs.map f := by
  induction h with
  | nil => rfl
  | @skip z zs ys e _ ih => cases e
  | @take z zs y ys e g _ ih => rw [List.map_cons, ih, g]
theorem FR.mem {xs : List α} {ys : List β} (h : FR T G xs ys) {y : β} (hy : y ∈ ys) : ∃ z ∈ xs, G z y ∧ T z true := by
  induction h with
  | nil => cases hy
  | @skip z zs ys e _ ih => obtain ⟨z', h1, h2⟩ := ih hy; exact ⟨z', List.mem_cons_of_mem _ h1, h2⟩
  | @take z zs y' ys e g _ ih =>
    rcases List.mem_cons.mp hy with rfl | hy
    · exact ⟨z, List.mem_cons_self, g, e⟩
    · obtain ⟨z', h1, h2⟩ := ih hy; exact ⟨z', List.mem_cons_of_mem _ h1, h2⟩
theorem FR.full {xs : List α} {ys : List β} (h : FR (fun _ b => b = true) G xs ys) : ys.length = xs.length := by
  induction h with
  | nil => rfl
  | skip e _ ih => cases e
  | take e g _ ih => rw [List.length_cons, List.length_cons, ih]
theorem FR.get {xs : List α} {ys : List β} (h : FR (fun _ b => b = true) G xs ys) : ∀ {i : Nat} {z : α}, xs[i]? = some z → ∃ y, ys[i]? = some y ∧ G z y := by
  induction h with
  | nil => intro i z e; cases e
  | skip e _ ih => cases e
  | @take z zs y ys e g _ ih =>
    intro i x ex
    cases i with
    | zero => cases ex; exact ⟨y, rfl, g⟩
    | succ i => exact ih (i := i) ex
end
section
variable {elt c : Expr} {own : List Nat} {sel : VV → List VV → Prop} {it : It3} {R : VQ} {σ : St3} {M : Mp} {α : Type}
variable {P : Program} {w : World} {K : PySem.W.Frag} {mg : Str → Option Value} {base : Heap} {CX : CXT} {N : List Str} {sc' : Scope} {k : Nat}
/-- the items stand for xs -/
structure Itm (it : It3) (M : Mp) (xs : List α) (Pz : α → VV → Prop) : Prop where
  n : it.n = xs.length
  item : ∀ j u, j < it.n → it.item j u → ∃ z, xs[j]? = some z ∧ Pz z u
  hold : ∀ M', LeM M M' → it.hold M'
  size : xs.length ≤ sizeLine
theorem compI_rel (xs : List α) {Pz : α → VV → Prop} (hi : Itm it M xs Pz) (G : α → VV → Prop)
    (he : ∀ z u M', z ∈ xs → Pz z u → LeM M M' → ∃ us, sel u us ∧ ∀ Y : Cx, Bd P w K mg base CX N sc' false k Y → WE Y elt (putA (wipeA σ own) own us) M' fun y M2 => G z y ∧ LeM M' M2)
    (q : ∀ D, M D = none → ∀ ys M', FR (fun _ b => b = true) G xs ys → LeM (updM M D (.lst ys)) M' → R (.ref D) M') : CompI P w K mg base CX N sc' k elt [] own sel R it σ M := fun D hD => by
  obtain ⟨hn, hitem, hhold, hz⟩ := hi
  refine ⟨fun j M' => ∃ ys, FR (fun _ b => b = true) G (xs.take j) ys ∧ LeM (updM M D (.lst ys)) M', ⟨[], .nil, LeM.refl⟩, fun j M' _ ⟨ys, _, l⟩ => hhold _ ((LeM.new hD).trans l), ?_, ?_⟩
  · rintro j u M' hj hu ⟨ys, fr, l⟩
    obtain ⟨z, hz', pz⟩ := hitem j u hj hu
    obtain ⟨us, hs, hb⟩ := he z u M' (List.mem_of_getElem? hz') pz ((LeM.new hD).trans l)
    refine ⟨us, hs, fun Y B Y' B' => (hb Y' B').mono fun y M2 ⟨g, l2⟩ => ⟨ys, l2 _ _ (l _ _ updM_same), ?_, ys ++ [y], ?_, ?_⟩⟩
    · have := fr.full
      rw [List.length_take] at this
      omega
    · rw [List.take_add_one, hz']
      exact fr.append (.take rfl g .nil)
    · have l3 := LeM.upd (p := D) (o := .lst (ys ++ [y])) (l.trans l2)
      rw [updM_updM] at l3
      exact l3
  · rintro M' ⟨ys, fr, l⟩
    rw [hn, List.take_length] at fr
    exact q D hD ys M' fr l
theorem compI_frel (xs : List α) {Pz : α → VV → Prop} (hi : Itm it M xs Pz) (T : α → Bool → Prop) (G : α → VV → Prop)
    (he : ∀ z u M', z ∈ xs → Pz z u → LeM M M' → ∃ us, sel u us ∧ ∀ Y : Cx, Bd P w K mg base CX N sc' false k Y → WT Y c (putA (wipeA σ own) own us) M' fun b M1 => T z b ∧ LeM M' M1 ∧ (b = true → ∀ Y' : Cx, Bd P w K mg base CX N sc' false k Y' → WE Y' elt (putA (wipeA σ own) own us) M1 fun y M2 => G z y ∧ LeM M1 M2))
    (q : ∀ D, M D = none → ∀ ys M', FR T G xs ys → LeM (updM M D (.lst ys)) M' → R (.ref D) M') : CompI P w K mg base CX N sc' k elt [c] own sel R it σ M := fun D hD => by
  obtain ⟨hn, hitem, hhold, hz⟩ := hi
  refine ⟨fun j M' => ∃ ys, FR T G (xs.take j) ys ∧ LeM (updM M D (.lst ys)) M', ⟨[], .nil, LeM.refl⟩, fun j M' _ ⟨ys, _, l⟩ => hhold _ ((LeM.new hD).trans l), ?_, ?_⟩
  · rintro j u M' hj hu ⟨ys, fr, l⟩
    obtain ⟨z, hz', pz⟩ := hitem j u hj hu
    obtain ⟨us, hs, hb⟩ := he z u M' (List.mem_of_getElem? hz') pz ((LeM.new hD).trans l)
    refine ⟨us, hs, fun Y B => ?_⟩
    refine fun σ' H s m => (hb Y B σ' H s m).mono fun b H1 ⟨M1, t1, m1, hT, l1, hE⟩ => ⟨M1, t1, m1, ?_⟩
    cases b with
    | false =>
      rw [if_neg Bool.false_ne_true]
      refine ⟨ys, ?_, l.trans l1⟩
      rw [List.take_add_one, hz']
      have := fr.append (.skip hT .nil)
      rw [List.append_nil] at this
      exact this
    | true =>
      rw [if_pos rfl]
      intro Y' B'
      refine (hE rfl Y' B').mono fun y M2 ⟨g, l2⟩ => ⟨ys, l2 _ _ (l1 _ _ (l _ _ updM_same)), ?_, ys ++ [y], ?_, ?_⟩
      · have := fr.len
        rw [List.length_take] at this
        omega
      · rw [List.take_add_one, hz']
        exact fr.append (.take hT g .nil)
      · have l3 := LeM.upd (p := D) (o := .lst (ys ++ [y])) ((l.trans l1).trans l2)
        rw [updM_updM] at l3
        exact l3
  · rintro M' ⟨ys, fr, l⟩
    rw [hn, List.take_length] at fr
    exact q D hD ys M' fr l
theorem compI_map (xs : List α) {Pz : α → VV → Prop} (hi : Itm it M xs Pz) (f : α → VV)
    (he : ∀ z u M', z ∈ xs → Pz z u → LeM M M' → ∃ us, sel u us ∧ ∀ Y : Cx, Bd P w K mg base CX N sc' false k Y → WE Y elt (putA (wipeA σ own) own us) M' fun y M2 => y = f z ∧ LeM M' M2)
    (q : ∀ D, M D = none → ∀ M', LeM (updM M D (.lst (xs.map f))) M' → R (.ref D) M') : CompI P w K mg base CX N sc' k elt [] own sel R it σ M :=
  compI_rel xs hi (fun z y => y = f z) he fun D hD ys M' fr l => q D hD M' (by rw [← fr.all]; exact l)
theorem compI_filter (xs : List α) {Pz : α → VV → Prop} (hi : Itm it M xs Pz) (t : α → Bool) (f : α → VV)
    (he : ∀ z u M', z ∈ xs → Pz z u → LeM M M' → ∃ us, sel u us ∧ ∀ Y : Cx, Bd P w K mg base CX N sc' false k Y → WT Y c (putA (wipeA σ own) own us) M' fun b M1 => b = t z ∧ LeM M' M1 ∧ (b = true → ∀ Y' : Cx, Bd P w K mg base CX N sc' false k Y' → WE Y' elt (putA (wipeA σ own) own us) M1 fun y M2 => y = f z ∧ LeM M1 M2))
    (q : ∀ D, M D = none → ∀ M', LeM (updM M D (.lst ((xs.filter t).map f))) M' → R (.ref D) M') : CompI P w K mg base CX N sc' k elt [c] own sel R it σ M :=
  compI_frel xs hi (fun z b => b = t z) (fun z y => y = f z) he fun D hD ys M' fr l => q D hD M' (by rw [← fr.pure]; exact l)
/-! the items of what is walked -/
theorem itm_lst {u : VV} {xs : List α} {v : α → VV} (hl : Lst M u (xs.map v)) (hz : xs.length ≤ sizeLine) : Itm (itL u (xs.map v)) M xs (fun z y => y = v z) :=
  ⟨List.length_map _, fun j y _ h => by
    have h' : (xs.map v)[j]? = some y := h
    rw [List.getElem?_map] at h'
    obtain ⟨z, h1, h2⟩ := Option.map_eq_some_iff.mp h'
    exact ⟨z, h1, h2.symm⟩, fun M' l => hl.le l, hz⟩
theorem itm_tup {xs : List α} {v : α → VV} (hz : xs.length ≤ sizeLine) : Itm (itT (xs.map v)) M xs (fun z y => y = v z) :=
  ⟨List.length_map _, fun j y _ h => by
    have h' : (xs.map v)[j]? = some y := h
    rw [List.getElem?_map] at h'
    obtain ⟨z, h1, h2⟩ := Option.map_eq_some_iff.mp h'
    exact ⟨z, h1, h2.symm⟩, fun M' l => trivial, hz⟩
theorem itm_rng {lo : Int} {n : Nat} (hz : n ≤ sizeLine) : Itm (itR lo n) M (List.range n) (fun z y => y = .int (lo + z)) :=
  ⟨List.length_range.symm, fun j y hj h => ⟨j, List.getElem?_range hj, h⟩, fun M' l => trivial, by rw [List.length_range]; exact hz⟩
theorem itm_zip {β : Type} {u u2 : VV} {xs : List α} {ys : List β} {v : α → VV} {v2 : β → VV} (hl : Lst M u (xs.map v)) (hl2 : Lst M u2 (ys.map v2)) (hz : xs.length ≤ sizeLine) : Itm (itZ u u2 (xs.map v) (ys.map v2)) M (xs.zip ys) (fun z y => y = .tup [v z.1, v2 z.2]) :=
  ⟨by show min (xs.map v).length (ys.map v2).length = _; rw [List.length_map, List.length_map, List.length_zip], fun j y _ h => by
    obtain ⟨w, w2, h1, h2, e⟩ := h
    rw [List.getElem?_map] at h1 h2
    obtain ⟨z, g1, rfl⟩ := Option.map_eq_some_iff.mp h1
    obtain ⟨z2, g2, rfl⟩ := Option.map_eq_some_iff.mp h2
    exact ⟨(z, z2), List.getElem?_zip_eq_some.mpr ⟨g1, g2⟩, e⟩, fun M' l => ⟨hl.le l, hl2.le l⟩, by rw [List.length_zip]; omega⟩
theorem itm_enum {u : VV} {xs : List α} {v : α → VV} (hl : Lst M u (xs.map v)) (hz : xs.length ≤ sizeLine) : Itm (itE u (xs.map v)) M xs.zipIdx (fun z y => y = .tup [.int z.2, v z.1]) :=
  ⟨by show (xs.map v).length = _; rw [List.length_map, List.length_zipIdx], fun j y _ h => by
    obtain ⟨w, h1, e⟩ := h
    rw [List.getElem?_map] at h1
    obtain ⟨z, g1, rfl⟩ := Option.map_eq_some_iff.mp h1
    exact ⟨(z, j), by rw [List.getElem?_zipIdx, g1]; simp, e⟩, fun M' l => hl.le l, by rw [List.length_zipIdx]; exact hz⟩
theorem itm_items {kvs : List (Key × VV)} (hz : kvs.length ≤ sizeLine) : Itm (itItems (kvs.map (·.1)) (kvs.map (·.2))) M kvs (fun z y => y = .tup [kW z.1, z.2]) :=
  ⟨List.length_map _, fun j y _ h => by
    obtain ⟨k, w, h1, h2, e⟩ := h
    rw [List.getElem?_map] at h1 h2
    obtain ⟨z, g1, rfl⟩ := Option.map_eq_some_iff.mp h1
    obtain ⟨z2, g2, rfl⟩ := Option.map_eq_some_iff.mp h2
    rw [g1] at g2
    cases g2
    exact ⟨z, g1, e⟩, fun M' l => trivial, hz⟩
theorem itm_keys {ks : List Key} (hz : ks.length ≤ sizeLine) : Itm (itKeys ks) M ks (fun z y => y = kW z) :=
  ⟨rfl, fun j y _ h => h, fun M' l => trivial, hz⟩
theorem itm_vals {ws : List VV} (hz : ws.length ≤ sizeLine) : Itm (itVals ws) M ws (fun z y => y = z) :=
  ⟨rfl, fun j y _ h => ⟨y, h, rfl⟩, fun M' l => trivial, hz⟩
end
/-! ### sorted -/
section
variable {X : Cx} {M : Mp} {Q : VQ}
theorem each_of {α β γ : Type} {R : α → β → Prop} : ∀ {as : List α} {bs : List β}, as.length = bs.length → (∀ (i : Nat) a b, as[i]? = some a → bs[i]? = some b → R a b) → PySem.W.EachIs R as bs
  | [], [], _, _ => .nil
  | [], _ :: _, h, _ => by cases h
  | _ :: _, [], h, _ => by cases h
  | a :: as, b :: bs, h, k => .cons (k 0 a b rfl rfl) (each_of (γ := γ) (by simpa using h) fun i x y h1 h2 => k (i + 1) x y h1 h2)
theorem DWs.length : ∀ {ws : List VV} {ds : List PyData}, DWs M ws ds → ws.length = ds.length
  | [], _, h => by cases h; rfl
  | w :: ws, _, h => by
    cases h with
    | cons _ h2 => rw [List.length_cons, List.length_cons, DWs.length h2]
theorem each_split {K : PySem.W.Frag} {H : Hp} {β : Type} {f : β → VV} : ∀ {out : List Value} {bs : List β}, PySem.W.EachIs (fun u b => ∃ v, RelV v u ∧ Rv K H v (f b)) out bs → ∃ vs, Vals vs out ∧ Rvs K H vs (bs.map f)
  | [], _, h => by cases h; exact ⟨[], .nil, .nil⟩
  | u :: out, _, h => by
    cases h with
    | cons h1 h2 =>
      obtain ⟨v, r1, r2⟩ := h1
      obtain ⟨vs, r3, r4⟩ := each_split h2
      exact ⟨v :: vs, .cons r1 r3, .cons r2 r4⟩
/-- sorted of data of one kind -/
theorem oc_sortD {w : VV} {ws : List VV} {ds : List PyData} (h : Lst M w ws) (hd : DWs M ws ds) (hal : PySem.W.AllAlike ds) (hk : PySem.W.Sortable ds) (hz : ws.length ≤ sizeLine) (hu : ∀ d ∈ ds, X.A.units + 2 + d.depth < cLine)
    (q : ∀ p, M p = none → Q (.ref p) (updM M p (.lst (((ws.zip ds).mergeSort (PySem.W.dataLe false (·.2))).map (·.1))))) : OC X (.builtin "sorted") [w] M Q := fun H vs m r => by
  cases r with
  | cons r1 r2 =>
    cases r2
    obtain ⟨ad, vs, rfl, h1, h2⟩ := h.v m r1
    intro pins s σ us I rv
    obtain ⟨its, rvs, hl, hsz⟩ := I.list h1
    rw [Vals.ref1 rv]
    obtain ⟨as, hall⟩ := Dp.readsAll I _ _ _ (hd.dp m _ _ _ h2) rvs
    have hlw : ws.length = ds.length := hd.length
    have e2 : (ws.zip ds).map (·.2) = ds := by rw [List.map_snd_zip (by omega)]
    have l1 : its.length = (ws.zip ds).length := by
      rw [List.length_zip, ← rvs.length, h2.length]; omega
    refine PySem.W.sorted_data (vs := its) (bs := ws.zip ds) (enc := (·.2)) (R := fun u b => ∃ v, RelV v u ∧ Rv X.K H v b.1) hl.isList ?_ ?_ (by rw [e2]; exact hal) (by rw [e2]; exact hk) (by rw [List.length_zip]; omega) (fun b hb => hu _ ?_) fun out ho eo => ?_
    · refine each_of (γ := Nat) l1 fun i u b hi hb => ?_
      obtain ⟨v, hv, rv'⟩ := vals_get rvs hi
      obtain ⟨w', hw, rw'⟩ := h2.get' hv
      obtain ⟨g1, g2⟩ := List.getElem?_zip_eq_some.mp hb
      rw [hw] at g1
      cases g1
      exact ⟨v, rv', rw'⟩
    · refine each_of (γ := Nat) l1 fun i u b hi hb => ?_
      obtain ⟨d, bs, hd1, hd2⟩ := readsAll_get hall hi
      obtain ⟨g1, g2⟩ := List.getElem?_zip_eq_some.mp hb
      rw [hd1] at g2
      cases g2
      exact ⟨bs, hd2⟩
    · rw [← e2]; exact List.mem_map.mpr ⟨b, hb, rfl⟩
    · obtain ⟨vo, rvo, rro⟩ := each_split (f := fun b : VV × PyData => b.1) eo
      obtain ⟨n, hn⟩ := PyProof.Rows.sortedAll_at s.heap its out.toArray
      have hf : H (s.heap.objs.size + 1) = none := I.hok.fresh (Nat.le_succ _)
      refine ⟨.ref (s.heap.objs.size + 1), upd H (s.heap.objs.size + 1) (.lst vo), I.laid (t' := s.toks) (fun b o e => PyProof.Rows.sortedAll_old e) (Nat.le_succ _) ⟨?_, out, n, rvo, hn⟩, rfl, .ref _, _, TM.fresh hf, m.putL (TM.fresh hf) (.inl hf) rro, .ref _, q _ (m.no hf)⟩
      rw [rvo.length, ho, List.length_zip]; omega
/-- .. of a Lean type with an order -/
theorem oc_sortT {α : Type} [DecidableEq α] [PySem.W.DatumOrd α] {w : VV} {xs : List α} {v : α → VV} (hu : X.A.units + 2 + PySem.W.Datum.depth α < cLine) (h : Lst M w (xs.map v)) (hd : ∀ x, DW M (v x) (PySem.W.Datum.toD x)) (hk : PySem.W.Sortable (xs.map PySem.W.Datum.toD)) (hz : xs.length ≤ sizeLine)
    (q : ∀ p, M p = none → Q (.ref p) (updM M p (.lst ((xs.mergeSort fun a b => !PySem.W.DatumOrd.lt b a).map v)))) : OC X (.builtin "sorted") [w] M Q := by
  refine oc_sortD h (dws_map hd xs) (PySem.W.AllAlike.of fun a b => PySem.W.DatumOrd.alike a b) hk (by rw [List.length_map]; exact hz) (fun d hd => ?_) fun p hp => ?_
  · obtain ⟨x, _, rfl⟩ := List.mem_map.mp hd
    exact Nat.lt_of_le_of_lt (Nat.add_le_add_left (PySem.W.Datum.depth_le x) _) hu
  · have e : (xs.map v).zip (xs.map PySem.W.Datum.toD) = xs.map fun x => (v x, PySem.W.Datum.toD x) := List.zip_map'
    rw [e, ← List.map_mergeSort (r := fun a b => !PySem.W.DatumOrd.lt b a) (fun a _ b _ => by
      show (!PySem.W.DatumOrd.lt b a) = PySem.W.dataLe false (·.2) (v a, PySem.W.Datum.toD a) (v b, PySem.W.Datum.toD b)
      rw [PySem.W.dataLe_eq]
      show _ = !PySem.W.dataLt (PySem.W.Datum.toD b) (PySem.W.Datum.toD a)
      rw [PySem.W.DatumOrd.lt_eq]), List.map_map]
    exact q p hp
end
end G3

set_option Elab.async false
set_option linter.all false
set_option maxRecDepth 100000
set_option maxHeartbeats 4000000
/-! L3: targets of several names, zip of tuples, further operators -/
namespace G3
open PySem PySem.Spec L2
section
variable {X : Cx} {a b c e tg : Expr} {es : List Expr} {σ : St3} {M : Mp} {Q : VQ} {D : En} {pos : Pos} {x y z : Str} {i j l : Nat}
variable {P : Program} {w : World} {K : PySem.W.Frag} {mg : Str → Option Value} {base : Heap} {CX : CXT} {N : List Str} {sc scope : Scope} {fl : Bool} {k : Nat}
abbrev g1 (i : Nat) : TGs := gCons (gName i) gNil
theorem pgI2 (B : Bd P w K mg base CX N sc fl k X) {px py pt : Pos} {kk : Nat} (hi : At N i x) (hx : (scBlk scope sc).names.lookup x = some .local) (hj : At N j y) (hy : (scBlk scope sc).names.lookup y = some .local) :
    ∀ (s0 : Shared) (H0 : Hp) (C : Addr) (cl : List (Str × Addr)) (fp : List Addr), PG (X.blk s0 H0 scope (compEnvC scope cl C X.env) fp) (.Tuple [.Name x px, .Name y py] kk pt) (gTup K 2 (gCons (gName i) (g1 j))) := fun s0 H0 C cl fp => by
  have z := pg_tup (X := X.blk s0 H0 scope (compEnvC scope cl C X.env) fp) (pos := pt) (k := kk) B.calm (pgs_cons (B.pgB (px := px) hi hx s0 H0 C cl fp) (pgs_cons (B.pgB (px := py) hj hy s0 H0 C cl fp) pgs_nil)) rfl rfl
  have e : (X.blk s0 H0 scope (compEnvC scope cl C X.env) fp).K = K := B.eK
  rw [e] at z
  exact z
theorem ctgs1 {K : PySem.W.Frag} {i : Nat} : CTgs K (g1 i) [i] (fun ws us => ∃ w, ws = [w] ∧ us = [w]) := fun σ' H xs ws us Z r e h =>
  ctgs_cons (K := K) (ctg_name (i := i)) (fun w us e => by rw [e]; rfl) ctgs_nil σ' H xs ws us Z r (by obtain ⟨w, rfl, rfl⟩ := e; exact ⟨w, [], [w], [], rfl, rfl, rfl, rfl, rfl⟩) h
theorem ctgs_n {K : PySem.W.Frag} {i : Nat} {ts : TGs} {owns : List Nat} {sels : List VV → List VV → Prop} (h2 : CTgs K ts owns sels) : CTgs K (gCons (gName i) ts) (i :: owns) (fun ws us => ∃ w wr ur, ws = w :: wr ∧ us = w :: ur ∧ sels wr ur) := fun σ' H xs ws us Z r e h =>
  ctgs_cons (K := K) (ctg_name (i := i)) (fun w us e => by rw [e]; rfl) h2 σ' H xs ws us Z r (by obtain ⟨w, wr, ur, rfl, rfl, e⟩ := e; exact ⟨w, wr, [w], ur, rfl, rfl, rfl, e⟩) h
/-- (x, y) -/
theorem ctg2 {K : PySem.W.Frag} {i j : Nat} : CTg K (gTup K 2 (gCons (gName i) (g1 j))) [i, j] (fun w us => ∃ a b, w = .tup [a, b] ∧ us = [a, b]) := ⟨fun σ' H x w us Z r e h =>
  (ctg_tup (n := 2) (ctgs_n (i := i) (ctgs1 (i := j)))).run σ' H x w us Z r (by obtain ⟨a, b, rfl, rfl⟩ := e; exact ⟨_, rfl, rfl, a, [b], [b], rfl, rfl, b, rfl, rfl⟩) h⟩
theorem pgI3 (B : Bd P w K mg base CX N sc fl k X) {px py pz pt : Pos} {kk : Nat} (hi : At N i x) (hx : (scBlk scope sc).names.lookup x = some .local) (hj : At N j y) (hy : (scBlk scope sc).names.lookup y = some .local) (hl : At N l z) (hz : (scBlk scope sc).names.lookup z = some .local) :
    ∀ (s0 : Shared) (H0 : Hp) (C : Addr) (cl : List (Str × Addr)) (fp : List Addr), PG (X.blk s0 H0 scope (compEnvC scope cl C X.env) fp) (.Tuple [.Name x px, .Name y py, .Name z pz] kk pt) (gTup K 3 (gCons (gName i) (gCons (gName j) (g1 l)))) := fun s0 H0 C cl fp => by
  have z := pg_tup (X := X.blk s0 H0 scope (compEnvC scope cl C X.env) fp) (pos := pt) (k := kk) B.calm (pgs_cons (B.pgB (px := px) hi hx s0 H0 C cl fp) (pgs_cons (B.pgB (px := py) hj hy s0 H0 C cl fp) (pgs_cons (B.pgB (px := pz) hl hz s0 H0 C cl fp) pgs_nil))) rfl rfl
  have e : (X.blk s0 H0 scope (compEnvC scope cl C X.env) fp).K = K := B.eK
  rw [e] at z
  exact z
theorem ctg3 {K : PySem.W.Frag} {i j l : Nat} : CTg K (gTup K 3 (gCons (gName i) (gCons (gName j) (g1 l)))) [i, j, l] (fun w us => ∃ a b c, w = .tup [a, b, c] ∧ us = [a, b, c]) := ⟨fun σ' H x w us Z r e h =>
  (ctg_tup (n := 3) (ctgs_n (i := i) (ctgs_n (i := j) (ctgs1 (i := l))))).run σ' H x w us Z r (by obtain ⟨a, b, c, rfl, rfl⟩ := e; exact ⟨_, rfl, rfl, a, _, _, rfl, rfl, b, [c], [c], rfl, rfl, c, rfl, rfl⟩) h⟩
def itZT (ws ws2 : List VV) : It3 := ⟨min ws.length ws2.length, fun i v => ∃ w w2, ws[i]? = some w ∧ ws2[i]? = some w2 ∧ v = .tup [w, w2], fun _ => True⟩
/-- zip of two lists, or of two tuples -/
theorem wi_zipA (B : Bd P w K mg base CX N sc fl k X) {e2 : Expr} {p pos' tpos : Pos} {elts : List Expr} {kk : Nat} {R : It3 → Mp → Prop} (hg : sc.names.lookup ("zip" : Str) = some .globalImplicit) (hm : mg "zip" = none)
    (h : WA X [e, e2] σ M fun us M1 => ∃ u u2 ws ws2, us = [u, u2] ∧ ((Lst M1 u ws ∧ Lst M1 u2 ws2 ∧ R (itZ u u2 ws ws2) M1) ∨ (u = .tup ws ∧ u2 = .tup ws2 ∧ R (itZT ws ws2) M1)))
    (hst : starEach [e, e2] X.env = (false, eval e X.env) :: starEach [e2] X.env := by rfl) (hpl : (backTo pos' (starEach [e2] X.env)).any (·.1) = false := by rfl) : WI X (.Tuple elts kk tpos) (.Call (.Name "zip" p) [e, e2] [] pos') σ M R := fun σ' H s m =>
  wI.of (RZ.pi_zipA (by show X.env.scope.names.lookup _ = _; rw [B.esc]; exact hg) (by rw [B.emg]; exact hm) wA.pa hst hpl) (h.run s m fun vs0 H1 us M1 t1 m1 r1 s1 ⟨u, u2, ws, ws2, eus, hor⟩ => by
    subst eus
    cases r1 with | cons r1 r2 =>
    cases r2 with | cons r2 r3 =>
    cases r3
    rcases hor with ⟨hl, hl2, q⟩ | ⟨hu1, hu2, q⟩
    · obtain ⟨a, vs, rfl, h1, h2⟩ := hl.v m1 r1
      obtain ⟨a2, vs2, rfl, h12, h22⟩ := hl2.v m1 r2
      refine ⟨a, a2, vs, vs2, rfl, .inl ⟨h1, h12, _, M1, t1, m1, ?_, q⟩⟩
      intro i M2 H2 t2 m2 hh hi
      obtain ⟨hh1, hh2⟩ := (show Lst M2 u ws ∧ Lst M2 u2 ws2 from hh)
      obtain ⟨a', xs, e', q1, rv⟩ := hh1.v m2 (Rv.mono t2 _ _ r1)
      obtain ⟨a'', xs2, e'', q12, rv2⟩ := hh2.v m2 (Rv.mono t2 _ _ r2)
      cases e'; cases e''
      have hlen := rv.length
      have hlen2 := rv2.length
      change i ≤ min ws.length ws2.length at hi
      by_cases hlt : i < min ws.length ws2.length
      · have hlt1 : i < ws.length := by omega
        have hlt2 : i < ws2.length := by omega
        obtain ⟨x, hx, rx⟩ := rv.get (i := i) (w := ws[i]) (by simp [hlt1])
        obtain ⟨x2, hx2, rx2⟩ := rv2.get (i := i) (w := ws2[i]) (by simp [hlt2])
        refine .inr ⟨hlt, ⟨xs, xs2, x, x2, q1, q12, hx, hx2⟩, fun y H' hy => ?_⟩
        obtain ⟨T, x', y', rfl, hT, rfl, hy, hy2⟩ := hy
        have ey := hy xs q1
        have ey2 := hy2 xs2 q12
        rw [hx] at ey
        rw [hx2] at ey2
        cases ey
        cases ey2
        have tT : TM H2 (upd H2 T (.tup [x, x2])) := TM.fresh hT
        exact ⟨_, ⟨ws[i], ws2[i], by simp [hlt1], by simp [hlt2], rfl⟩, tT, m2.alloc hT, .tup (SqT.of upd_same) (.cons (Rv.mono tT _ _ rx) (.cons (Rv.mono tT _ _ rx2) .nil))⟩
      · exact .inl ⟨by show i = min ws.length ws2.length; omega, xs, xs2, q1, q12, by omega⟩
    · subst hu1 hu2
      obtain ⟨a, xs, rfl, h1, rv0⟩ := r1.tupv
      obtain ⟨a2, xs2, rfl, h12, rv20⟩ := r2.tupv
      refine ⟨a, a2, xs, xs2, rfl, .inr ⟨h1, h12, _, M1, t1, m1, ?_, q⟩⟩
      intro i M2 H2 t2 m2 hh hi
      have q1 := SqT.mono t2 h1
      have q12 := SqT.mono t2 h12
      have rv := Rvs.mono t2 _ _ rv0
      have rv2 := Rvs.mono t2 _ _ rv20
      have hlen := rv.length
      have hlen2 := rv2.length
      change i ≤ min ws.length ws2.length at hi
      by_cases hlt : i < min ws.length ws2.length
      · have hlt1 : i < ws.length := by omega
        have hlt2 : i < ws2.length := by omega
        obtain ⟨x, hx, rx⟩ := rv.get (i := i) (w := ws[i]) (by simp [hlt1])
        obtain ⟨x2, hx2, rx2⟩ := rv2.get (i := i) (w := ws2[i]) (by simp [hlt2])
        refine .inr ⟨hlt, ⟨xs, xs2, x, x2, q1, q12, hx, hx2⟩, fun y H' hy => ?_⟩
        obtain ⟨T, x', y', rfl, hT, rfl, hy, hy2⟩ := hy
        have ey := hy xs q1
        have ey2 := hy2 xs2 q12
        rw [hx] at ey
        rw [hx2] at ey2
        cases ey
        cases ey2
        have tT : TM H2 (upd H2 T (.tup [x, x2])) := TM.fresh hT
        exact ⟨_, ⟨ws[i], ws2[i], by simp [hlt1], by simp [hlt2], rfl⟩, tT, m2.alloc hT, .tup (SqT.of upd_same) (.cons (Rv.mono tT _ _ rx) (.cons (Rv.mono tT _ _ rx2) .nil))⟩
      · exact .inl ⟨by show i = min ws.length ws2.length; omega, xs, xs2, q1, q12, by omega⟩)
/-! operators -/
theorem o2_rep {p : Addr} {us : List VV} {n : Int} (h1 : M p = some (.lst us)) (h0 : -(2 ^ 63) ≤ n ∧ n < 2 ^ 63) (hz : us.length * n.toNat ≤ sizeLine) (q : ∀ l, M l = none → Q (.ref l) (updM M l (.lst (List.replicate n.toNat us).flatten))) : O2 X (binaryOp .Mult) (.ref p) (.int n) M Q := fun H v u m r1 r2 => by
  cases r1; cases r2
  obtain ⟨vs, g1, g2⟩ := m _ _ h1
  refine wOp.of op_rep ⟨p, n, vs, rfl, rfl, g1, h0.1, h0.2, by rw [g2.length]; exact hz, fun l hl => ⟨.ref l, _, TM.fresh hl, m.putL (TM.fresh hl) (.inl hl) ?_, .ref l, q l (m.no hl)⟩⟩
  have rep : ∀ k : Nat, Rvs X.K H (List.replicate k vs).flatten (List.replicate k us).flatten := fun k => by
    induction k with
    | zero => exact .nil
    | succ k ih => rw [List.replicate_succ, List.replicate_succ, List.flatten_cons, List.flatten_cons]; exact g2.append ih
  exact rep _
theorem o2_notB {a b : Bool} (q : Q (.bl (!decide (a = b))) M) : O2 X (compareOp .IsNot) (.bl a) (.bl b) M Q := fun H v u m r1 r2 => by
  cases r1; cases r2
  exact wOp.of op_notBl ⟨_, _, rfl, rfl, .mk m (.bl _) q⟩
theorem o2_isB {a b : Bool} (q : Q (.bl (decide (a = b))) M) : O2 X (compareOp .Is) (.bl a) (.bl b) M Q := fun H v u m r1 r2 => by
  cases r1; cases r2
  exact wOp.of op_isBl ⟨_, _, rfl, rfl, .mk m (.bl _) q⟩
/-- xs[:-1] -/
theorem cut_but {ws : List VV} {x : VV} : cutW (ws ++ [x]) none (some (-1)) = ws := by
  unfold cutW
  have e : HT.sIx (ws ++ [x]).length (ws ++ [x]).length (some (-1)) = ws.length := by
    have hl : (ws ++ [x]).length = ws.length + 1 := by rw [List.length_append]; rfl
    rw [hl]
    unfold HT.sIx
    simp
    omega
  rw [e, HT.sIx_none, List.drop_zero, Nat.sub_zero, List.take_left']
  rfl
end
end G3

set_option Elab.async false
set_option linter.all false
set_option maxRecDepth 100000
set_option maxHeartbeats 4000000
/-! L3: == of what is alike by content -/
namespace G3
open PySem PySem.Spec L2
section
variable {X : Cx} {M : Mp} {Q : VQ}
theorem des_data {n : Nat} : ∀ (us vs : List VV), us.length = vs.length → (∀ (j : Nat) x y, us[j]? = some x → vs[j]? = some y → ∃ d, DW M x d ∧ DW M y d ∧ d.plain = true ∧ d.depth ≤ n) →
    ∃ ds, DWs M us ds ∧ DWs M vs ds ∧ PyData.plainAll ds = true ∧ PyData.depthAll ds ≤ n
  | [], [], _, _ => ⟨[], .nil, .nil, by simp only [PyData.plainAll], by simp only [PyData.depthAll]; omega⟩
  | [], _ :: _, h, _ => by cases h
  | _ :: _, [], h, _ => by cases h
  | u :: us, v :: vs, h, k => by
    obtain ⟨d, d1, d2, d3, d4⟩ := k 0 u v rfl rfl
    obtain ⟨ds, e1, e2, e3, e4⟩ := des_data us vs (by simpa using h) fun j x y h1 h2 => k (j + 1) x y h1 h2
    exact ⟨d :: ds, .cons d1 e1, .cons d2 e2, by simp only [PyData.plainAll, d3, e3, Bool.and_self], by simp only [PyData.depthAll]; omega⟩
theorem DE.data {n : Nat} {u v : VV} (h : DE M n u v) : ∃ d, DW M u d ∧ DW M v d ∧ d.plain = true ∧ d.depth ≤ n := by
  induction h with
  | non n => exact ⟨.none, .non, .non, by simp only [PyData.plain], by simp only [PyData.depth]; omega⟩
  | bl n b => exact ⟨.bool b, .bl b, .bl b, by simp only [PyData.plain], by simp only [PyData.depth]; omega⟩
  | int n i => exact ⟨.int i, .int i, .int i, by simp only [PyData.plain], by simp only [PyData.depth]; omega⟩
  | str n x => exact ⟨.str x, .str x, .str x, by simp only [PyData.plain], by simp only [PyData.depth]; omega⟩
  | lst h1 h2 h3 _ _ ih =>
    obtain ⟨ds, e1, e2, e3, e4⟩ := des_data _ _ h3 ih
    exact ⟨.list ds, .lst h1 e1, .lst h2 e2, by simp only [PyData.plain]; exact e3, by simp only [PyData.depth]; omega⟩
  | tup h3 _ _ ih =>
    obtain ⟨ds, e1, e2, e3, e4⟩ := des_data _ _ h3 ih
    exact ⟨.tuple ds, .tup e1, .tup e2, by simp only [PyData.plain]; exact e3, by simp only [PyData.depth]; omega⟩
theorem o2_eqP {x y : VV} {d e : PyData} (hu : X.A.units + min d.depth e.depth < cLine) (h1 : DW M x d) (h2 : DW M y e) (s1 : d.plain = true) (s2 : e.plain = true) (q : Q (.bl (PyData.eqv d e)) M) : O2 X (compareOp .Eq) x y M Q := fun H v1 v2 m r1 r2 pins s σ u1 u2 I z1 z2 => by
  obtain ⟨as, ra⟩ := Dp.reads I _ _ _ (h1.dp m _ _ _ r1) z1
  obtain ⟨bs, rb⟩ := Dp.reads I _ _ _ (h2.dp m _ _ _ r2) z2
  exact SeqAt.eq_plain ra rb s1 s2 hu ⟨.bl _, H, I, rfl, .mk m (.bl _) q⟩
theorem o2_neP {x y : VV} {d e : PyData} (hu : X.A.units + min d.depth e.depth < cLine) (h1 : DW M x d) (h2 : DW M y e) (s1 : d.plain = true) (s2 : e.plain = true) (q : Q (.bl (!PyData.eqv d e)) M) : O2 X (compareOp .NotEq) x y M Q := fun H v1 v2 m r1 r2 pins s σ u1 u2 I z1 z2 => by
  obtain ⟨as, ra⟩ := Dp.reads I _ _ _ (h1.dp m _ _ _ r1) z1
  obtain ⟨bs, rb⟩ := Dp.reads I _ _ _ (h2.dp m _ _ _ r2) z2
  exact SeqAt.ne_plain ra rb s1 s2 hu ⟨.bl _, H, I, rfl, .mk m (.bl _) q⟩
theorem o2_eqE {n : Nat} {x y : VV} (hu : X.A.units + 64 < cLine) (h : DE M n x y) (hn : n ≤ 60) (q : Q (.bl true) M) : O2 X (compareOp .Eq) x y M Q := by
  obtain ⟨d, d1, d2, d3, d4⟩ := h.data
  exact o2_eqP (by omega) d1 d2 d3 d3 (by rw [SeqAt.eqv_refl_plain d d3]; exact q)
theorem o2_neE {n : Nat} {x y : VV} (hu : X.A.units + 64 < cLine) (h : DE M n x y) (hn : n ≤ 60) (q : Q (.bl false) M) : O2 X (compareOp .NotEq) x y M Q := by
  obtain ⟨d, d1, d2, d3, d4⟩ := h.data
  exact o2_neP (by omega) d1 d2 d3 d3 (by rw [SeqAt.eqv_refl_plain d d3]; exact q)
theorem DE.ints {n : Nat} {u v : VV} {ns : List Int} (hu : Lst M u (ns.map .int)) (hv : Lst M v (ns.map .int)) (hl : ns.length ≤ 100000) : DE M (n + 1) u v := DE.map hu hv hl fun x _ => .int n x
theorem DE.spts {n : Nat} {u v : VV} {row : List Spt} (hu : Lst M u (row.map vsp)) (hv : Lst M v (row.map vsp)) (hl : row.length ≤ 100000) : DE M (n + 3) u v := DE.map hu hv hl fun x _ => .spt x n
/-- [a, b] of lists -/
theorem DE.two {n : Nat} {u v a b c d : VV} (hu : Lst M u [a, b]) (hv : Lst M v [c, d]) (h1 : DE M n a c) (h2 : DE M n b d) : DE M (n + 1) u v := .lst hu hv rfl (by show 2 ≤ 100000; decide) fun j x y e1 e2 => by
  match j with
  | 0 => cases e1; cases e2; exact h1
  | 1 => cases e1; cases e2; exact h2
  | j + 2 => cases e1
end
end G3

set_option Elab.async false
set_option linter.all false
set_option maxRecDepth 100000
set_option maxHeartbeats 4000000
/-! L3: a, *b = ..; list(zip(..)) -/
namespace G3
open PySem PySem.Spec PyProof.Rows L2
/-! ### a, *b = a list -/
section
variable {X : Cx} {pins : List (Addr × Obj)} {σ : L2.St} {H : Hp} {s : Shared}
theorem unpackStar {a : Addr} {x : V} {xs : List V} {Q : List Value → Shared → Prop} (I : Inv X pins σ H s) (hq : SqL X.K H a (x :: xs)) (hz : xs.length + 1 ≤ 16384) (hc : X.calm = true)
    (h : ∀ D s' u, H D = none → RelV x u → Inv X pins σ (upd H D (.lst xs)) s' → Q [u, .ref D] s') : wpAny (model X.prog X.w) X.A (unpackItems (.ref a) 2 (some 1)) Q X.xe s := by
  obtain ⟨its, rv, p, _⟩ := I.list hq
  cases rv with
  | @cons _ u _ us r rs =>
  have hl := p.isList
  have hh := I.ok.hd hc
  have hus : us.length = xs.length := rs.length.symm
  have hsz : (u :: us).toArray.size = us.length + 1 := by simp
  have hlt : a ≠ s.heap.objs.size := by obtain ⟨o, ho, _⟩ := hl; exact Nat.ne_of_lt (Heap.lt_size ho)
  unfold unpackItems
  refine wpAny_bind ?_
  unfold notIterableAtAll
  refine wpAny_bind (wpAny_specialOf hl.typeIs slot_list_iter.lookup ?_)
  refine wpAny_pure ?_
  simp only [Bool.false_eq_true, if_false]
  refine wpAny_bind (wpAny_holding (wpAny_pyIter_list hl ?_))
  refine wpAny_bind (wpAny_holding (PySem.W.kun_draw hlt 1 0 _ _ ⟨_, Heap.get?_push_size _ rfl, rfl, rfl⟩ (hl.push _) (by rw [hsz]; omega) fun h₁ hit₁ hs₁ => ?_))
  have hl₁ : h₁.IsList a (u :: us).toArray := (hl.push _).extBut hs₁.extBut hlt
  rw [Nat.zero_add] at hit₁
  have hit₁' := hit₁
  obtain ⟨oi, hoi, _⟩ := hit₁'
  have hl₁' := hl₁
  obtain ⟨ol, hol, _⟩ := hl₁'
  rw [List.drop_zero]
  have ef : (u :: us).toArray.toList.take 1 = [u] := rfl
  rw [ef]
  rw [if_neg (show ¬ (([u] : List Value).length < 1) from Nat.lt_irrefl 1)]
  refine wpAny_bind (wpAny_holding (PySem.W.kun_collect (s := { s with heap := h₁ }) (T := "list_iterator") (.inr (.inr (.inl rfl))) (Walks.list (A := X.A.in1) hh s.heap.objs.size a hlt (u :: us).toArray) (fun j u st => st.1.typeIs) (k := 1) (by rw [hsz]; omega) ⟨hit₁, hl₁⟩ (Heap.lt_size hoi) (Heap.lt_size hol) (fun h₂ tk hk => ?_) (by rw [hsz, sizeLine_eq]; omega)))
  have ed : (u :: us).toArray.toList.drop 1 = us := rfl
  rw [ed]
  show wpAny _ _ (if us.length < 0 then _ else _) _ _ _
  rw [if_neg (Nat.not_lt_zero _)]
  show wpAny _ _ (newList (us.take (us.length - 0)) >>= fun d => pure ([u] ++ [d] ++ us.drop (us.length - 0))) _ _ _
  rw [Nat.sub_zero, List.take_length, List.drop_length]
  refine wpAny_bind (wpAny_newList ?_ (by rw [sizeLine_eq]; omega))
  have I2 : Inv X pins σ H { s with heap := h₂, toks := tk } := I.kept (t' := tk) fun b o e => hk b o (Nat.ne_of_lt (Heap.lt_size e)) (hs₁.extBut b o (Nat.ne_of_lt (Heap.lt_size e)) (Heap.get?_push_of_some _ e))
  exact wpAny_pure (h _ _ u I2.fresh r (I2.lnew (t' := tk) rs (by rw [sizeLine_eq]; omega)))
def gStar (K : PySem.W.Frag) (i j : Nat) : TG := fun v σ H Q => ∃ a x xs, v = .ref a ∧ SqL K H a (x :: xs) ∧ xs.length + 1 ≤ 16384 ∧ ∀ D, H D = none → Q ((σ.set i (some x)).set j (some (.ref D))) (upd H D (.lst xs))
theorem pg_star {i j k : Nat} {x y : Str} {px py pt ps : Pos} (hc : X.calm = true) (h : PGs X [.Name x px, .Name y py] (gCons (gName i) (gCons (gName j) gNil))) : PG X (.Tuple [.Name x px, .Starred (.Name y py) ps] k pt) (gStar X.K i j) := by
  refine ⟨fun pins s σ H v u Q I r hw => ?_⟩
  obtain ⟨a, w, xs, e1, hq, hl, hw⟩ := hw
  subst e1
  cases r
  rw [assign_Tuple]
  refine wpAny_bind (wpAny_standAt ?_)
  unfold unpack
  have e2 : (assignEach [.Name x px, .Starred (.Name y py) ps] X.env).length = 2 := rfl
  have e3 : (assignEach [.Name x px, .Starred (.Name y py) ps] X.env).findIdx? (·.1) = some 1 := rfl
  have e4 : (assignEach [.Name x px, .Starred (.Name y py) ps] X.env).map (·.2) = (assignEach [.Name x px, .Name y py] X.env).map (·.2) := rfl
  rw [e2, e3, e4]
  refine wpAny_bind (wpAny_holding (unpackStar I hq hl hc fun D s' u hD ru I' => ?_))
  exact h.run pins s' σ _ [w, .ref D] [u, .ref D] Q I' (.cons ru (.cons rfl .nil)) ⟨w, [.ref D], rfl, .ref D, [], rfl, rfl, hw D hD⟩
end
section
variable {P : Program} {w : World} {K : PySem.W.Frag} {mg : Str → Option Value} {base : Heap} {CX : CXT} {N : List Str} {sc : Scope} {fl : Bool} {k : Nat} {X : Cx}
variable {e : Expr} {σ : St3} {M : Mp} {D : En} {pos : Pos} {x y : Str} {i j : Nat}
theorem ws_star (B : Bd P w K mg base CX N sc fl k X) {kk : Nat} {px py pt ps : Pos} (hi : At N i x) (hx : LocK sc x) (hj : At N j y) (hy : LocK sc y)
    (h : WE X e σ M fun u M1 => ∃ w ws, Lst M1 u (w :: ws) ∧ ws.length + 1 ≤ 16384 ∧ ∀ A, M1 A = none → D.nx ((σ.set i (some w)).set j (some (.ref A))) (updM M1 A (.lst ws)))
    (hf : fl = true ∨ sc.names.lookup x = some .local := by first | exact .inl rfl | exact .inr rfl) (hf2 : fl = true ∨ sc.names.lookup y = some .local := by first | exact .inl rfl | exact .inr rfl)
    (hs : swapsWithSole [.Tuple [.Name x px, .Starred (.Name y py) ps] kk pt] e pos.line X.env = pure false := by rfl) (hw : swappedStores [.Tuple [.Name x px, .Starred (.Name y py) ps] kk pt] e X.env = pure none := by rfl) :
    WS X (.Assign [.Tuple [.Name x px, .Starred (.Name y py) ps] kk pt] e pos) σ M D := fun σ' H s m =>
  wS.of (ps_asg wE.pe (pg_star B.calm (pgs_cons (pg_name (i := i) (by rw [B.eN]; exact B.nd) (by rw [B.eN]; exact hi.get) (by rw [B.esc]; exact hx) (B.hf hf)) (pgs_cons (pg_name (i := j) (by rw [B.eN]; exact B.nd) (by rw [B.eN]; exact hj.get) (by rw [B.esc]; exact hy) (B.hf hf2)) pgs_nil))) hs hw) (h.run s m fun v H1 u M1 t1 m1 r1 s1 ⟨w, ws, hl, hz, q⟩ => by
    obtain ⟨a, vs, rfl, h1, h2⟩ := hl.v m1 r1
    cases h2 with
    | cons r rs =>
    refine ⟨a, _, _, rfl, h1, by rw [rs.length]; exact hz, fun A hA => ?_⟩
    exact ⟨_, _, t1.trans (TM.fresh hA), ((s1.mono (TM.fresh hA)).set i (Rv.mono (TM.fresh hA) _ _ r)).set j (.ref A), m1.putL (TM.fresh hA) (.inl hA) rs, q A (m1.no hA)⟩)
end
end G3
/-! ### list(zip(..)) of lists -/
namespace G3
open PySem PySem.Spec PyProof.Rows L2
theorem nolen_zip : typeLookup (.type "zip") "__len__" = pure none := by rw [typeLookup_type, builtinLookup_eq_fast]; kernel_rfl
theorem nohint_zip : typeLookup (.type "zip") "__length_hint__" = pure none := by rw [typeLookup_type, builtinLookup_eq_fast]; kernel_rfl
def ZS (z TI TO i1 i2 l1 l2 S : Addr) (i : Nat) (h : Heap) : Prop := IsPair h TI (.ref i1) (.ref i2) ∧ h.IsListIter i1 l1 i ∧ h.IsListIter i2 l2 i ∧ (∃ o, h.get? TO = some o) ∧
  ((IsZip h z TI TO .none ∧ ∃ x y, IsPair h TO x y) ∨ ∃ T f oT, IsZipHeld h z TI TO T f ∧ h.get? T = some oT ∧ T ≠ z ∧ T ≠ i1 ∧ T ≠ i2 ∧ T ≠ S)
section
variable {prog : Program} {w : World} {A : Around} {E : Value → Shared → Prop} {s : Shared} {z TI TO i1 i2 l1 l2 S : Addr} {i : Nat} {xs ys : Array Value}
theorem ZS.zip {h : Heap} (st : ZS z TI TO i1 i2 l1 l2 S i h) : ∃ f0 b, h.get? z = some { cls := .type "zip", dict := none, data := .fields #[f0, .bool b, .bool false, .ref TI, .ref TO], slots := #[] } := by
  rcases st.2.2.2.2 with ⟨a, _⟩ | ⟨T, f, oT, a, _⟩
  · exact ⟨_, _, a⟩
  · exact ⟨_, _, a⟩
theorem ZS.keep {h h' : Heap} (st : ZS z TI TO i1 i2 l1 l2 S i h) (k : ∀ b o, b ≠ S → h.get? b = some o → h'.get? b = some o) (n : S ≠ z ∧ S ≠ TI ∧ S ≠ TO ∧ S ≠ i1 ∧ S ≠ i2) : ZS z TI TO i1 i2 l1 l2 S i h' := by
  obtain ⟨a, b, c, ⟨oo, to⟩, d⟩ := st
  refine ⟨k _ _ n.2.1.symm a, b.at fun o q => k _ o n.2.2.2.1.symm q, c.at fun o q => k _ o n.2.2.2.2.symm q, ⟨oo, k _ _ n.2.2.1.symm to⟩, ?_⟩
  rcases d with ⟨d, x, y, e⟩ | ⟨T, f, oT, d, e, n1, n2, n3, n4⟩
  · exact .inl ⟨k _ _ n.1.symm d, x, y, k _ _ n.2.2.1.symm e⟩
  · exact .inr ⟨T, f, oT, k _ _ n.1.symm d, k _ _ n4 e, n1, n2, n3, n4⟩
theorem zs_item {x y : Value} {Q : Option Value → Shared → Prop} (D : ZipApart z TI TO i1 i2 l1 l2) (st : ZS z TI TO i1 i2 l1 l2 S i s.heap) (hS : S < s.heap.objs.size)
    (hl1 : s.heap.IsList l1 xs) (hl2 : s.heap.IsList l2 ys) (hx : xs[i]? = some x) (hy : ys[i]? = some y)
    (hQ : ∀ h', ZS z TI TO i1 i2 l1 l2 S (i + 1) h' → IsPair h' s.heap.objs.size x y →
      (∀ c o, c ∉ [z, TO, i1, i2] → s.heap.get? c = some o → h'.get? c = some o) → Q (some (.ref s.heap.objs.size)) { s with heap := h' }) :
    wpAny (model prog w) A (pyNext (.ref z)) Q E s := by
  obtain ⟨a, b, c, ⟨oo, to⟩, d⟩ := st
  have l1 : i1 < s.heap.objs.size := by obtain ⟨o, ho, _⟩ := b; exact Heap.lt_size ho
  have l2 : i2 < s.heap.objs.size := by obtain ⟨o, ho, _⟩ := c; exact Heap.lt_size ho
  rcases d with ⟨d, x0, y0, e⟩ | ⟨T, f, oT, d, e, n1, n2, n3, n4⟩
  · have hz : z < s.heap.objs.size := Heap.lt_size d
    refine wpAny_pyNext_zip_item D d a e b c hl1 hl2 hx hy fun h' a1 a2 a3 a4 a5 a6 a7 => ?_
    refine hQ h' ⟨a7 _ _ D.TIz D.TITO D.TIi1 D.TIi2 a, a3, a4, ⟨_, a2⟩, .inr ⟨s.heap.objs.size, false, _, a1, a5, Nat.ne_of_gt hz, Nat.ne_of_gt l1, Nat.ne_of_gt l2, Nat.ne_of_gt hS⟩⟩ a5 fun c o hc q => ?_
    exact a7 c o (fun q' => hc (by simp [q'])) (fun q' => hc (by simp [q'])) (fun q' => hc (by simp [q'])) (fun q' => hc (by simp [q'])) q
  · refine wpAny_pyNext_zip_item_held D d e a b c hl1 hl2 hx hy fun h' a1 a3 a4 a5 a6 a7 => ?_
    refine hQ h' ⟨a7 _ _ D.TIz D.TIi1 D.TIi2 a, a3, a4, ⟨oo, a7 _ _ D.TOz D.TOi1 D.TOi2 to⟩, .inr ⟨T, true, oT, a1, a7 _ _ n1 n2 n3 e, n1, n2, n3, n4⟩⟩ a5 fun c o hc q => ?_
    exact a7 c o (fun q' => hc (by simp [q'])) (fun q' => hc (by simp [q'])) (fun q' => hc (by simp [q'])) q
theorem zs_done {Q : Option Value → Shared → Prop} (hh : A.handled = none) (D : ZipApart z TI TO i1 i2 l1 l2) (st : ZS z TI TO i1 i2 l1 l2 S i s.heap)
    (hl1 : s.heap.IsList l1 xs) (hl2 : s.heap.IsList l2 ys) (hend : xs[i]? = none ∨ ys[i]? = none)
    (hQ : ∀ h', (∀ c o, c ∉ [z, TO, i1, i2] → s.heap.get? c = some o → h'.get? c = some o) → Q none { s with heap := h' }) : wpAny (model prog w) A (pyNext (.ref z)) Q E s := by
  obtain ⟨a, b, c, _, d⟩ := st
  rcases d with ⟨d, x0, y0, e⟩ | ⟨T, f, oT, d, e, n1, n2, n3, n4⟩
  · exact wpAny_pyNext_zip_end hh D d a e b c hl1 hl2 hend fun h' k => hQ h' fun c o hc q => k c o (fun q' => hc (by simp [q'])) (fun q' => hc (by simp [q'])) (fun q' => hc (by simp [q'])) (fun q' => hc (by simp [q'])) q
  · exact wpAny_pyNext_zip_end_held hh D d e a b c hl1 hl2 hend fun h' k => hQ h' fun c o hc q => k c o (fun q' => hc (by simp [q'])) (fun q' => hc (by simp [q'])) (fun q' => hc (by simp [q'])) q
end
/-- pairs of two rows -/
def zipV (ws1 ws2 : List VV) : List VV := (ws1.zip ws2).map fun p => .tup [p.1, p.2]
theorem zipV_len {ws1 ws2 : List VV} : (zipV ws1 ws2).length = min ws1.length ws2.length := by rw [zipV, List.length_map, List.length_zip]
theorem zipV_at {ws1 ws2 : List VV} {i : Nat} {a b : VV} (h1 : ws1[i]? = some a) (h2 : ws2[i]? = some b) : (zipV ws1 ws2)[i]? = some (.tup [a, b]) := by
  rw [zipV, List.getElem?_map, (List.getElem?_zip_eq_some (z := (a, b))).mpr ⟨h1, h2⟩]; rfl
section
variable {X : Cx} {pins : List (Addr × Obj)} {σ : L2.St} {z TI TO i1 i2 l1 l2 S : Addr} {M : Mp} {R : Result → Shared → Prop}
theorem zip_loop {A : Around} (hh : A.handled = none) (D : ZipApart z TI TO i1 i2 l1 l2) (NS : S ≠ z ∧ S ≠ TI ∧ S ≠ TO ∧ S ≠ i1 ∧ S ≠ i2) {u1 u2 : VV} {ws1 ws2 : List VV} (np : M S = none) (hl1 : Lst M u1 ws1) (hl2 : Lst M u2 ws2) (res : Value) :
    ∀ (k i : Nat) (s : Shared) (H : Hp), min ws1.length ws2.length - i = k → i ≤ min ws1.length ws2.length → Inv X pins σ H s → SimM X.K (updM M S (.lst ((zipV ws1 ws2).take i))) H → Rv X.K H (.ref l1) u1 → Rv X.K H (.ref l2) u2 →
      ZS z TI TO i1 i2 l1 l2 S i s.heap → (∀ b ∈ [z, TO, i1, i2], FpOk X pins H b) →
      (∀ s' H', Inv X pins σ H' s' → TM H H' → SimM X.K (updM M S (.lst (zipV ws1 ws2))) H' → R (.ok (.ret res)) s') →
      codeAny (model X.prog X.w) A (.builtin "list.extend.loop" ⟨[.ref S, .ref z, res], []⟩) R s := by
  intro k
  induction k with
  | zero =>
    intro i s H hk hi I m r1 r2 st hf hR
    have hin : i = min ws1.length ws2.length := by omega
    have le : LeM M (updM M S (.lst ((zipV ws1 ws2).take i))) := LeM.new np
    obtain ⟨a1, vs1, e1, q1, rv1⟩ := (hl1.le le).v m r1
    obtain ⟨a2, vs2, e2, q2, rv2⟩ := (hl2.le le).v m r2
    cases e1; cases e2
    obtain ⟨its1, v1, p1, z1⟩ := I.list q1
    obtain ⟨its2, v2, p2, z2⟩ := I.list q2
    refine codeAny_builtin F.entry_extend_loop ?_
    rw [Around.under_plainId F.plain_extend_loop _]
    show wpAny _ A.in1 (pyNext (.ref z) >>= _) _ _ s
    refine wpAny_bind (zs_done (by exact hh) D st p1.isList p2.isList ?_ fun h' hk => ?_)
    · have g1 := v1.length; have g2 := v2.length; have g3 := rv1.length; have g4 := rv2.length
      by_cases c : ws1.length ≤ ws2.length
      · exact .inl (by simp; omega)
      · exact .inr (by simp; omega)
    refine wpAny_pure (hR _ H (I.turnedL (t' := s.toks) (ch := [z, TO, i1, i2]) hk hf) TM.refl ?_)
    rw [List.take_of_length_le (by rw [zipV_len]; omega)] at m
    exact m
  | succ k ih =>
    intro i s H hk hi I m r1 r2 st hf hR
    have le : LeM M (updM M S (.lst ((zipV ws1 ws2).take i))) := LeM.new np
    obtain ⟨a1, vs1, e1, q1, rv1⟩ := (hl1.le le).v m r1
    obtain ⟨a2, vs2, e2, q2, rv2⟩ := (hl2.le le).v m r2
    cases e1; cases e2
    obtain ⟨its1, v1, p1, z1⟩ := I.list q1
    obtain ⟨its2, v2, p2, z2⟩ := I.list q2
    have hi1 : i < ws1.length := by omega
    have hi2 : i < ws2.length := by omega
    obtain ⟨x, hx, rx⟩ := rv1.get (i := i) (w := ws1[i]) (by simp [hi1])
    obtain ⟨y, hy, ry⟩ := rv2.get (i := i) (w := ws2[i]) (by simp [hi2])
    obtain ⟨u, hu, ru⟩ := v1.get hx
    obtain ⟨u', hu', ru'⟩ := v2.get hy
    obtain ⟨acc, hacc, racc⟩ := m S _ updM_same
    obtain ⟨zl, its, n0, vacc, hlacc, eacc⟩ := I.lstM hacc
    have lS : S < s.heap.objs.size := Heap.lt_size eacc
    refine codeAny_builtin F.entry_extend_loop ?_
    rw [Around.under_plainId F.plain_extend_loop _]
    show wpAny _ A.in1 (pyNext (.ref z) >>= _) _ _ s
    refine wpAny_bind (zs_item D st lS p1.isList p2.isList (by simpa using hu) (by simpa using hu') fun h' st' hT hk' => ?_)
    have new : ObjOk X.prog X.w (upd H s.heap.objs.size (.tup [x, y])) h' s.heap.objs.size (.tup [x, y]) := ⟨by show 2 ≤ sizeLine; decide, [u, u'], .cons ru (.cons ru' .nil), ⟨_, hT, rfl, _, rfl⟩⟩
    have I1 : Inv X pins σ (upd H s.heap.objs.size (.tup [x, y])) { s with heap := h' } := I.turnedNew (t' := s.toks) (ch := [z, TO, i1, i2]) hk' hf (Nat.le_refl _) new
    have hTn : H s.heap.objs.size = none := I.fresh
    have m1 := m.alloc (ho := .tup [x, y]) hTn
    have tT : TM H (upd H s.heap.objs.size (.tup [x, y])) := TM.fresh hTn
    have eS : (upd H s.heap.objs.size (.tup [x, y])) S = some (.lst acc) := by rw [upd_ne (Nat.ne_of_lt lS)]; exact hacc
    obtain ⟨_, its', n1, vacc', hl', eacc'⟩ := I1.lstM eS
    have racc1 := Rvs.mono tT _ _ racc
    have hal : acc.length = i := by rw [racc.length, List.length_take, zipV_len]; omega
    have hz1 := p1
    have hmin : i < sizeLine := by
      have g1 := v1.length; have g3 := rv1.length
      have : vs1.length ≤ sizeLine := z1
      omega
    have hsz' : its'.toArray.size = i := by rw [List.size_toArray, ← hl', hal]
    have hlen2 : its'.length = i := by rw [← hl', hal]
    show wpAny _ A.in1 (updateSeq S (·.push (.ref s.heap.objs.size)) >>= _) _ _ _
    refine wpAny_bind ?_
    refine wpAny_updateSeq eacc' rfl (wpAny_pure ⟨plainId_quiet F.plain_extend_loop _, ?_⟩) (by omega) (by show (its'.toArray.push _).size ≤ sizeLine + 1; rw [Array.size_push]; omega)
    have e3 := Heap.get?_update_self (Obj.mapSeq (·.push (Value.ref s.heap.objs.size))) eacc' rfl
    have kS : ∀ b o, b ≠ S → h'.get? b = some o → (h'.update S (Obj.mapSeq (·.push (Value.ref s.heap.objs.size)))).get? b = some o := fun b o hb q => (Heap.get?_update_other _ _ (Ne.symm hb)).trans q
    have I2 : Inv X pins σ (upd (upd H s.heap.objs.size (.tup [x, y])) S (.lst (acc ++ [.ref s.heap.objs.size]))) { s with heap := h'.update S (Obj.mapSeq (·.push (Value.ref s.heap.objs.size))) } :=
      I1.write (t' := s.toks) (by rw [eS]; trivial) (.inl rfl) kS ⟨_, e3⟩ ⟨by rw [List.length_append, hal]; exact hmin, its' ++ [.ref s.heap.objs.size], _, vacc'.append (show Vals [V.ref s.heap.objs.size] [Value.ref s.heap.objs.size] from .cons rfl .nil), by rw [e3]; simp [Obj.mapSeq]; rfl⟩
    have m2 := m1.putL (TM.lst eS) (.inr ⟨_, updM_same⟩) (racc1.append (.cons (w := .tup [ws1[i], ws2[i]]) (.tup (SqT.of upd_same) (.cons (Rv.mono tT _ _ rx) (.cons (Rv.mono tT _ _ ry) .nil))) .nil))
    rw [updM_updM] at m2
    have et : (zipV ws1 ws2).take (i + 1) = (zipV ws1 ws2).take i ++ [.tup [ws1[i], ws2[i]]] := by
      rw [List.take_add_one, zipV_at (i := i) (a := ws1[i]) (b := ws2[i]) (by simp [hi1]) (by simp [hi2])]; rfl
    rw [← et] at m2
    have t2 := tT.trans (TM.lst (o := .lst (acc ++ [.ref s.heap.objs.size])) eS)
    refine ih (i + 1) _ _ (by omega) (by omega) I2 m2 (Rv.mono t2 _ _ r1) (Rv.mono t2 _ _ r2) (st'.keep kS NS) (fun b hb => ?_) fun s' H' I' t' m' => hR s' H' I' (t2.trans t') m'
    obtain ⟨f1, f2⟩ := hf b hb
    have hbl : b < s.heap.objs.size := by
      obtain ⟨x1, x2, x3, ⟨_, xo⟩, x4⟩ := st
      have e' : b = z ∨ b = TO ∨ b = i1 ∨ b = i2 := by simpa using hb
      rcases e' with q | q | q | q
      · rcases x4 with ⟨d, _⟩ | ⟨_, _, _, d, _⟩
        · rw [q]; exact Heap.lt_size d
        · rw [q]; exact Heap.lt_size d
      · rw [q]; exact Heap.lt_size xo
      · rw [q]; obtain ⟨o, ho, _⟩ := x2; exact Heap.lt_size ho
      · rw [q]; obtain ⟨o, ho, _⟩ := x3; exact Heap.lt_size ho
    have hbS : b ≠ S := by
      have e' : b = z ∨ b = TO ∨ b = i1 ∨ b = i2 := by simpa using hb
      rcases e' with q | q | q | q
      · rw [q]; exact NS.1.symm
      · rw [q]; exact NS.2.2.1.symm
      · rw [q]; exact NS.2.2.2.1.symm
      · rw [q]; exact NS.2.2.2.2.symm
    exact ⟨by rw [upd_ne hbS, upd_ne (Nat.ne_of_lt hbl)]; exact f1, f2⟩
end
end G3
namespace G3
open PySem PySem.Spec PyProof.Rows L2
section
variable {P : Program} {w : World} {K : PySem.W.Frag} {mg : Str → Option Value} {base : Heap} {CX : CXT} {N : List Str} {sc : Scope} {fl : Bool} {k : Nat} {X : Cx}
variable {e e2 : Expr} {σ : St3} {M : Mp} {D : En} {Q : VQ}
/-- list(zip(e, e2)) of two lists -/
theorem we_listZip (B : Bd P w K mg base CX N sc fl k X) {p1 p2 pos pos2 : Pos} (hg : sc.names.lookup ("list" : Str) = some .globalImplicit) (hm : mg "list" = none) (hg2 : sc.names.lookup ("zip" : Str) = some .globalImplicit) (hm2 : mg "zip" = none)
    (h : WA X [e, e2] σ M fun us M1 => ∃ u1 u2 ws1 ws2, us = [u1, u2] ∧ Lst M1 u1 ws1 ∧ Lst M1 u2 ws2 ∧ ∀ A, M1 A = none → Q (.ref A) (updM M1 A (.lst (zipV ws1 ws2))))
    (hst : starEach [e, e2] X.env = (false, eval e X.env) :: starEach [e2] X.env := by rfl) (hpl : (backTo pos2 (starEach [e2] X.env)).any (·.1) = false := by rfl)
    (hst1 : starEach [.Call (.Name "zip" p2) [e, e2] [] pos2] X.env = (false, eval (.Call (.Name "zip" p2) [e, e2] [] pos2) X.env) :: starEach [] X.env := by rfl) (hpl1 : (backTo pos (starEach [] X.env)).any (·.1) = false := by rfl) :
    WE X (.Call (.Name "list" p1) [.Call (.Name "zip" p2) [e, e2] [] pos2] [] pos) σ M Q := fun σ' H sl m pins s I => by
  refine Call_ (ld_blt I (by show X.env.scope.names.lookup _ = _; rw [B.esc]; exact hg) (by rw [B.emg]; exact hm) bb_list (PyProof.Rows.callWith_type1 ?_ hst1 hpl1))
  rw [hst1]
  show wpAny _ _ (spliced ((false, eval (.Call (.Name "zip" p2) [e, e2] [] pos2) X.env) :: backTo pos (starEach [] X.env))) _ _ s
  refine Calls.spliced_cons ?_
  refine Call_ (ld_blt I (by show X.env.scope.names.lookup _ = _; rw [B.esc]; exact hg2) (by rw [B.emg]; exact hm2) PyProof.Rows.boot_zip (PyProof.Rows.callWith_type1 (thn (h σ' H sl m pos2 pins s I) fun us s1 ⟨vs, H1, I1, r1, ws, M1, t1, m1, rr, u1, u2, ws1, ws2, ews, hl1, hl2, q⟩ => ?_) hst hpl))
  subst ews
  cases rr with | cons ra rr =>
  cases rr with | cons rb rr =>
  cases rr
  obtain ⟨l1, xs1, e1, q1, _⟩ := hl1.v m1 ra
  obtain ⟨l2, xs2, e2', q2, _⟩ := hl2.v m1 rb
  subst e1 e2'
  cases r1 with | cons r r1 =>
  cases r1 with | cons r' r1 =>
  cases r1
  cases r
  cases r'
  obtain ⟨its1, v1, pl1, z1⟩ := I1.list q1
  obtain ⟨its2, v2, pl2, z2⟩ := I1.list q2
  have la : l1 < s1.heap.objs.size := pl1.lt
  have lb : l2 < s1.heap.objs.size := pl2.lt
  refine call_zip_2 pl1.isList pl2.isList fun h' hz hTI hTO h1 h2 hsz hk => ?_
  have I2 : Inv X pins σ' H1 { s1 with heap := h' } := I1.kept (t' := s1.toks) hk
  have Dz := PySem.W.ktu_apart s1.heap.objs.size l1 l2 la lb
  refine Calls.spliced_nil ?_
  have hh := I.ok.hd B.calm
  -- list(the zip)
  refine callType_codes (Q₁ := fun obj s₁ => obj = .ref h'.objs.size ∧ s₁ = { s1 with heap := h'.push { cls := .type "list", data := .seq #[] } }) F.called_list (F.typeCall_list_1 _) F.entry_list_init
    (code_list_new (s := { s1 with heap := h' }) _ ⟨rfl, rfl⟩) fun obj s₁ h₁ => ?_
  obtain ⟨rfl, rfl⟩ := h₁
  have hS : (h'.push { cls := .type "list", data := .seq #[] }).get? h'.objs.size = some { cls := .type "list", data := .seq #[] } := Heap.get?_push_size _ rfl
  refine ⟨⟨_, hS, rfl⟩, F.args_list_init_2 _ _, ?_⟩
  show wpAny _ _ (do let old ← Builtin.List.listItems (.ref h'.objs.size); Builtin.List.listUpdate (.ref h'.objs.size) (fun _ => #[]); letGo old.toList.reverse; Builtin.List.listExtendWith (.ref h'.objs.size) (.ref (s1.heap.objs.size + 4)) .none) _ _ _
  refine wpAny_bind ?_
  unfold Builtin.List.listItems
  refine wpAny_bind (wpAny_seqItems hS rfl (wpAny_pure ?_))
  show wpAny _ _ (updateSeq h'.objs.size (fun _ => #[]) >>= fun _ => letGo (#[] : Array Value).toList.reverse >>= fun _ => Builtin.List.listExtendWith (.ref h'.objs.size) (.ref (s1.heap.objs.size + 4)) .none) _ _ _
  refine wpAny_bind (wpAny_updateSeq hS rfl ?_)
  have hS₂ := Heap.get?_update_self (Obj.mapSeq (fun _ => (#[] : Array Value))) hS rfl
  refine wpAny_bind (wpAny_letGo ?_)
  have hSI : h'.objs.size ≠ s1.heap.objs.size + 4 := by rw [hsz]; omega
  have k1 : ∀ b o, h'.get? b = some o → ((h'.push { cls := .type "list", data := .seq #[] }).update h'.objs.size (Obj.mapSeq fun _ => #[])).get? b = some o :=
    fun b o e => (Heap.get?_update_other _ _ (Ne.symm (Nat.ne_of_lt (Heap.lt_size e)))).trans (Heap.get?_push_of_some _ e)
  have zT : ∀ (hp : Heap), (∀ b o, h'.get? b = some o → hp.get? b = some o) → ({ s1 with heap := hp } : Shared).TypeIs (.ref (s1.heap.objs.size + 4)) "zip" := fun hp kk => ⟨_, kk _ _ hz, rfl⟩
  generalize hH2 : (h'.push { cls := .type "list", data := .seq #[] }).update h'.objs.size (Obj.mapSeq fun _ => #[]) = hp2 at hS₂ k1
  unfold Builtin.List.listExtendWith
  refine wpAny_bind (wpAny_typeOf (zT hp2 k1) ?_)
  have x1 : Builtin.List.listSameRef (.ref h'.objs.size) (.ref (s1.heap.objs.size + 4)) = false := by simp [Builtin.List.listSameRef, hSI]
  have x2 : (Value.type "zip" == Value.type "list") = false := by decide
  have x3 : (Value.type "zip" == Value.type "tuple") = false := by decide
  simp only [x1, x2, x3, Bool.or_false, Bool.false_eq_true, if_false]
  refine wpAny_bind (wpAny_pyIter_zip (k1 _ _ hz) ?_)
  refine wpAny_bind (wpAny_holding ?_)
  unfold Builtin.List.listLengthHint
  refine wpAny_bind (wpAny_specialOf (zT hp2 k1) nolen_zip ?_)
  show wpAny _ _ (specialOf (Value.ref _) (Str.ofString "__length_hint__") >>= _) _ _ _
  refine wpAny_bind (wpAny_specialOf (zT hp2 k1) nohint_zip ?_)
  refine wpAny_pure ?_
  show wpAny _ _ (rule "list.extend.makes-room" >>= fun _ => Builtin.List.listTouch (.ref h'.objs.size) >>= fun _ =>
    again (.builtin "list.extend.loop" ⟨[.ref h'.objs.size, .ref (s1.heap.objs.size + 4), .none], []⟩)) _ _ _
  refine wpAny_bind (wpAny_rule ?_)
  refine wpAny_bind ?_
  show wpAny _ _ (updateSeq h'.objs.size (·.push .none) >>= fun _ => updateSeq h'.objs.size (·.pop)) _ _ _
  refine wpAny_bind (wpAny_updateSeq hS₂ rfl ?_)
  have hS₃ := Heap.get?_update_self (Obj.mapSeq (·.push Value.none)) hS₂ rfl
  refine wpAny_updateSeq hS₃ rfl ?_
  have hS₄ := Heap.get?_update_self (Obj.mapSeq (·.pop)) hS₃ rfl
  have k2 : ∀ b o, h'.get? b = some o → ((hp2.update h'.objs.size (Obj.mapSeq (·.push Value.none))).update h'.objs.size (Obj.mapSeq (·.pop))).get? b = some o :=
    fun b o e => (Heap.get?_update_other _ _ (Ne.symm (Nat.ne_of_lt (Heap.lt_size e)))).trans ((Heap.get?_update_other _ _ (Ne.symm (Nat.ne_of_lt (Heap.lt_size e)))).trans (k1 b o e))
  generalize (hp2.update h'.objs.size (Obj.mapSeq (·.push Value.none))).update h'.objs.size (Obj.mapSeq (·.pop)) = hp3 at hS₄ k2
  have hn : H1 h'.objs.size = none := I2.fresh
  have I3 : Inv X pins σ' (upd H1 h'.objs.size (.lst [])) { s1 with heap := hp3 } := I2.laid (t' := s1.toks) k2 (Nat.le_refl _) ⟨Nat.zero_le _, [], _, .nil, hS₄⟩
  have m3 : SimM X.K (updM M1 h'.objs.size (.lst ((zipV ws1 ws2).take 0))) (upd H1 h'.objs.size (.lst [])) := m1.putL (TM.fresh hn) (.inl hn) .nil
  have tf : TM H1 (upd H1 h'.objs.size (.lst [])) := TM.fresh hn
  have lt5 : ∀ j, j < 5 → s1.heap.objs.size + j < h'.objs.size := fun j hj => by rw [hsz]; omega
  have NS : h'.objs.size ≠ s1.heap.objs.size + 4 ∧ h'.objs.size ≠ s1.heap.objs.size + 2 ∧ h'.objs.size ≠ s1.heap.objs.size + 3 ∧ h'.objs.size ≠ s1.heap.objs.size ∧ h'.objs.size ≠ s1.heap.objs.size + 1 := by
    rw [hsz]; omega
  refine wpAny_pure ⟨plainId_quiet F.plain_extend_loop _, zip_loop (by exact hh) Dz NS (m1.no hn) hl1 hl2 .none _ 0 _ _ rfl (Nat.zero_le _) I3 m3 (Rv.mono tf _ _ ra) (Rv.mono tf _ _ rb)
    ⟨k2 _ _ hTI, h1.at fun o q => k2 _ o q, h2.at fun o q => k2 _ o q, ⟨_, k2 _ _ hTO⟩, .inl ⟨k2 _ _ hz, _, _, k2 _ _ hTO⟩⟩ (fun b hb => ?_) fun s' H' I' t' m' => ?_⟩
  · have e' : b = s1.heap.objs.size + 4 ∨ b = s1.heap.objs.size + 3 ∨ b = s1.heap.objs.size ∨ b = s1.heap.objs.size + 1 := by simpa using hb
    have hle : s1.heap.objs.size ≤ b := by
      rcases e' with q | q | q | q
      · rw [q]; exact Nat.le_add_right _ _
      · rw [q]; exact Nat.le_add_right _ _
      · rw [q]; exact Nat.le_refl _
      · rw [q]; exact Nat.le_add_right _ _
    have hlt : b < h'.objs.size := by
      rcases e' with q | q | q | q
      · rw [q]; exact lt5 4 (by decide)
      · rw [q]; exact lt5 3 (by decide)
      · rw [q]; exact lt5 0 (by decide)
      · rw [q]; exact lt5 1 (by decide)
    exact I1.fpOk hle (by rw [upd_ne (Nat.ne_of_lt hlt)]; exact I1.hok.fresh hle)
  · exact ⟨rfl, .ref h'.objs.size, H', I', rfl, _, _, (t1.trans tf).trans t', m', .ref _, q _ (m1.no hn)⟩
end
end G3

set_option Elab.async false
set_option linter.all false
set_option maxRecDepth 100000
set_option maxHeartbeats 4000000
/-! what the ratios stand for -/
namespace G3
open PySem L2 PySem.W
def rq (p : Rt) : Rat := (p.1 : Rat) / (p.2 : Rat)
theorem castP {n : Int} (h : 0 < n) : (0 : Rat) < (n : Rat) := by exact_mod_cast h
theorem castN {n : Int} (h : n ≠ 0) : (n : Rat) ≠ 0 := by exact_mod_cast h
theorem rq_mul {p : Rt} (h : 0 < p.2) : rq p * (p.2 : Rat) = (p.1 : Rat) := by
  have := castN (n := p.2) (by omega)
  unfold rq
  grind
theorem rq_nrm {a b : Int} (hb : b ≠ 0) : rq (nrm a b) = (a : Rat) / (b : Rat) := by
  obtain ⟨g, hg, e1, e2, h3, _⟩ := nrm_is a b hb
  generalize nrm a b = p at e1 e2 h3
  have c1 : (a : Rat) = (p.1 : Rat) * (g : Rat) := by rw [e1]; exact Rat.intCast_mul _ _
  have c2 : (b : Rat) = (p.2 : Rat) * (g : Rat) := by rw [e2]; exact Rat.intCast_mul _ _
  have n1 := castN hg
  have n2 := castN (n := p.2) (by omega)
  rw [c1, c2]
  unfold rq
  grind
theorem rq_sum {p q : Rt} (hp : 0 < p.2) (hq : 0 < q.2) : rq (rsum p q) = rq p + rq q := by
  unfold rsum
  rw [rq_nrm (mul_ne hp hq)]
  have n1 := castN (n := p.2) (by omega)
  have n2 := castN (n := q.2) (by omega)
  unfold rq
  simp only [Rat.intCast_mul, Rat.intCast_add]
  grind
theorem rq_dif {p q : Rt} (hp : 0 < p.2) (hq : 0 < q.2) : rq (rdif p q) = rq p - rq q := by
  unfold rdif
  rw [rq_nrm (mul_ne hp hq)]
  have n1 := castN (n := p.2) (by omega)
  have n2 := castN (n := q.2) (by omega)
  unfold rq
  simp only [Rat.intCast_mul, Rat.intCast_sub]
  grind
theorem rq_prod {p q : Rt} (hp : 0 < p.2) (hq : 0 < q.2) : rq (rprod p q) = rq p * rq q := by
  unfold rprod
  rw [rq_nrm (mul_ne hp hq)]
  have n1 := castN (n := p.2) (by omega)
  have n2 := castN (n := q.2) (by omega)
  unfold rq
  simp only [Rat.intCast_mul]
  grind
theorem rq_quo {p q : Rt} (hp : 0 < p.2) (hq : 0 < q.2) (h : q.1 ≠ 0) : rq (rquo p q) = rq p / rq q := by
  have hn : p.2 * q.1 ≠ 0 := fun z => by rcases Int.mul_eq_zero.mp z with z | z <;> omega
  unfold rquo
  rw [rq_nrm hn]
  have n1 := castN (n := p.2) (by omega)
  have n2 := castN (n := q.2) (by omega)
  have n3 := castN h
  unfold rq
  simp only [Rat.intCast_mul]
  grind
theorem rq_lt {p q : Rt} (hp : 0 < p.2) (hq : 0 < q.2) : rcomp p q < 0 ↔ rq p < rq q := by
  have m1 := rq_mul hp
  have m2 := rq_mul hq
  have p1 := castP hp
  have p2 := castP hq
  have e : rcomp p q < 0 ↔ (p.1 : Rat) * (q.2 : Rat) < (q.1 : Rat) * (p.2 : Rat) := by
    unfold rcomp
    rw [← Rat.intCast_mul, ← Rat.intCast_mul, Rat.intCast_lt_intCast]
    omega
  rw [e, ← m1, ← m2]
  have pp := Rat.mul_pos p1 p2
  constructor
  · intro h
    by_cases c : rq p < rq q
    · exact c
    · have c' : rq q ≤ rq p := Rat.not_lt.mp c
      have := Rat.mul_le_mul_of_nonneg_right c' (Rat.le_of_lt pp)
      grind
  · intro h
    have := Rat.mul_lt_mul_of_pos_right h pp
    grind
theorem rq_le {p q : Rt} (hp : 0 < p.2) (hq : 0 < q.2) : rcomp p q ≤ 0 ↔ rq p ≤ rq q := by
  have h := rq_lt hq hp
  rw [rcomp_swap] at h
  constructor
  · intro c
    exact Rat.not_lt.mp fun z => by have := h.mpr z; omega
  · intro c
    by_cases z : rcomp p q ≤ 0
    · exact z
    · exact absurd (h.mp (by omega)) (Rat.not_lt.mpr c)
theorem rq_zero {p : Rt} (hp : 0 < p.2) : p.1 = 0 ↔ rq p = 0 := by
  have m1 := rq_mul hp
  have n1 := castN (n := p.2) (by omega)
  constructor
  · intro h
    unfold rq
    rw [h]
    grind
  · intro h
    rw [h] at m1
    have : (p.1 : Rat) = 0 := by grind
    exact_mod_cast this
theorem rq_neg {p : Rt} (hp : 0 < p.2) : p.1 < 0 ↔ rq p < 0 := by
  have h := rq_lt (p := p) (q := (0, 1)) hp (by decide)
  have e : rq (0, 1) = 0 := (rq_zero (p := (0, 1)) (by decide)).mp rfl
  rw [e] at h
  rw [← h]
  unfold rcomp
  show _ ↔ p.1 * 1 - 0 * p.2 < 0
  omega
theorem rq_abs {p : Rt} (hp : 0 < p.2) : rq (rabs p) = if rq p < 0 then - rq p else rq p := by
  have hn := rq_neg hp
  by_cases c : p.1 < 0
  · rw [if_pos (hn.mp c)]
    have e : ((p.1.natAbs : Int)) = - p.1 := by omega
    unfold rq rabs
    simp only [e, Rat.intCast_neg]
    grind
  · rw [if_neg (fun z => c (hn.mpr z))]
    have e : ((p.1.natAbs : Int)) = p.1 := by omega
    unfold rq rabs
    simp only [e]
theorem rq_int (n : Int) : rq (n, 1) = (n : Rat) := by
  unfold rq
  simp only [Rat.intCast_one]
  grind
end G3

set_option Elab.async false
set_option linter.all false
set_option maxRecDepth 100000
set_option maxHeartbeats 4000000
/-! k24: pieces cut by boxes, in plain Lean -/
namespace G3
open PySem L2
abbrev Pr := Int × Int
abbrev vpr (p : Pr) : VV := .tup [.int p.1, .int p.2]
def cutWay (sp : Rt × Rt) (s e lo hi : Int) : Option (Rt × Rt) :=
  if s = e then (if lo ≤ s ∧ s ≤ hi then some sp else none) else
  let p := if e < s then rquo (hi - s, 1) (e - s, 1) else rquo (lo - s, 1) (e - s, 1)
  let q := if e < s then rquo (lo - s, 1) (e - s, 1) else rquo (hi - s, 1) (e - s, 1)
  let f := if rcomp sp.1 p < 0 then p else sp.1
  let l := if rcomp q sp.2 < 0 then q else sp.2
  if rcomp l f < 0 then none else some (f, l)
def optv : Option (Rt × Rt) → VV
  | none => .non
  | some (a, b) => .tup [vr a, vr b]
def spotP (p : Pr) : Spt := ((p.1, 1), (p.2, 1))
structure PB (p : Pr) : Prop where
  x : p.1.natAbs < 2 ^ 10
  y : p.2.natAbs < 2 ^ 10
theorem PB.sb {p : Pr} (h : PB p) : SB CB (spotP p) :=
  ⟨RB.wh (Nat.lt_of_lt_of_le h.x (Nat.pow_le_pow_right (by decide) (by decide))) (by decide), RB.wh (Nat.lt_of_lt_of_le h.y (Nat.pow_le_pow_right (by decide) (by decide))) (by decide)⟩
theorem nrm_one (a : Int) : nrm a 1 = (a, 1) := by
  unfold nrm
  rw [if_neg (by decide), Int.gcd_one]
  exact Prod.ext (Int.fdiv_one a) rfl
theorem rdif_int (a b : Int) : rdif (a, 1) (b, 1) = (a - b, 1) := by
  unfold rdif
  show nrm (a * 1 - b * 1) (1 * 1) = _
  rw [Int.mul_one, Int.mul_one, Int.mul_one]
  exact nrm_one _
theorem rcomp_int (a b : Int) : rcomp (a, 1) (b, 1) = a - b := by
  unfold rcomp
  show a * 1 - b * 1 = _
  rw [Int.mul_one, Int.mul_one]
theorem cut_bits {sp : Rt × Rt} {s e lo hi : Int} {r : Rt × Rt} (h1 : RB 40 sp.1) (h2 : RB 40 sp.2) (hs : s.natAbs < 2 ^ 10) (he : e.natAbs < 2 ^ 10) (hl : lo.natAbs < 2 ^ 10) (hh : hi.natAbs < 2 ^ 10) (h : cutWay sp s e lo hi = some r) : RB 40 r.1 ∧ RB 40 r.2 := by
  unfold cutWay at h
  by_cases c : s = e
  · rw [if_pos c] at h
    split at h
    · cases h; exact ⟨h1, h2⟩
    · cases h
  · rw [if_neg c] at h
    have hf : (e - s, (1 : Int)).1 ≠ 0 := by show e - s ≠ 0; omega
    have b1 : RB 20 (e - s, 1) := RB.wh (by show (e - s).natAbs < 2 ^ 20; omega) (by decide)
    have b2 : RB 20 (lo - s, 1) := RB.wh (by show (lo - s).natAbs < 2 ^ 20; omega) (by decide)
    have b3 : RB 20 (hi - s, 1) := RB.wh (by show (hi - s).natAbs < 2 ^ 20; omega) (by decide)
    have q1 : RB 40 (rquo (lo - s, 1) (e - s, 1)) := b2.quo b1 hf
    have q2 : RB 40 (rquo (hi - s, 1) (e - s, 1)) := b3.quo b1 hf
    dsimp only at h
    have qp : RB 40 (if e < s then rquo (hi - s, 1) (e - s, 1) else rquo (lo - s, 1) (e - s, 1)) := by split <;> assumption
    have qq : RB 40 (if e < s then rquo (lo - s, 1) (e - s, 1) else rquo (hi - s, 1) (e - s, 1)) := by split <;> assumption
    generalize (if e < s then rquo (hi - s, 1) (e - s, 1) else rquo (lo - s, 1) (e - s, 1)) = p at h qp
    generalize (if e < s then rquo (lo - s, 1) (e - s, 1) else rquo (hi - s, 1) (e - s, 1)) = q at h qq
    have qf : RB 40 (if rcomp sp.1 p < 0 then p else sp.1) := by split <;> assumption
    have ql : RB 40 (if rcomp q sp.2 < 0 then q else sp.2) := by split <;> assumption
    generalize (if rcomp sp.1 p < 0 then p else sp.1) = f at h qf
    generalize (if rcomp q sp.2 < 0 then q else sp.2) = l at h ql
    by_cases c2 : rcomp l f < 0
    · rw [if_pos c2] at h; cases h
    · rw [if_neg c2] at h; cases h; exact ⟨qf, ql⟩
def clipF (a b lo hi : Pr) : Option (Rt × Rt) := (cutWay ((0, 1), (1, 1)) a.1 b.1 lo.1 hi.1).bind fun sp => cutWay sp a.2 b.2 lo.2 hi.2
theorem clip_bits {a b lo hi : Pr} {r : Rt × Rt} (ha : PB a) (hb : PB b) (hl : PB lo) (hh : PB hi) (h : clipF a b lo hi = some r) : RB 40 r.1 ∧ RB 40 r.2 := by
  unfold clipF at h
  cases e : cutWay ((0, 1), (1, 1)) a.1 b.1 lo.1 hi.1 with
  | none => rw [e] at h; cases h
  | some sp =>
    rw [e] at h
    have z := cut_bits (RB.zero.mono (by decide)) (⟨by decide, by decide, by decide⟩ : RB 40 (1, 1)) ha.x hb.x hl.x hh.x e
    exact cut_bits z.1 z.2 ha.y hb.y hl.y hh.y h
def onF (a b : Spt) (t : Rt) : Spt := (onAt false a b t, onAt true a b t)
def dueF (a b : Pr) : Option (Rt × Rt) → VV
  | none => .non
  | some (f, l) => .tup [vsp (onF (spotP a) (spotP b) f), vsp (onF (spotP a) (spotP b) l)]
theorem due_de {M : Mp} (a b : Pr) (o : Option (Rt × Rt)) : DE M 3 (dueF a b o) (dueF a b o) := by
  cases o with
  | none => exact .non _
  | some r =>
    refine .tup rfl (by show 2 ≤ 100000; decide) fun j x y h1 h2 => ?_
    rw [h1] at h2; cases h2
    match j with
    | 0 => cases h1; exact .spt _ _
    | 1 => cases h1; exact .spt _ _
    | j + 2 => cases h1
def spCutWay : Sp3 := fun ws M Q => ∃ (a b : Rt) (s e lo hi : Int), ws = [.tup [vr a, vr b], .int s, .int e, .int lo, .int hi] ∧ RB 40 a ∧ RB 40 b ∧ s.natAbs < 2 ^ 10 ∧ e.natAbs < 2 ^ 10 ∧ lo.natAbs < 2 ^ 10 ∧ hi.natAbs < 2 ^ 10 ∧ Q (optv (cutWay (a, b) s e lo hi)) M
def spLSpan : Sp3 := fun ws M Q => ∃ (o : Option (Rt × Rt)) (s e lo hi : Int), ws = [optv o, vr (s, 1), vr (e - s, 1), vr (lo, 1), vr (hi, 1)] ∧ (∀ r, o = some r → RB 40 r.1 ∧ RB 40 r.2) ∧ s.natAbs < 2 ^ 10 ∧ e.natAbs < 2 ^ 10 ∧ lo.natAbs < 2 ^ 10 ∧ hi.natAbs < 2 ^ 10 ∧ Q (optv (o.bind fun sp => cutWay sp s e lo hi)) M
def spClip : Sp3 := fun ws M Q => ∃ (a b lo hi : Pr), ws = [vsp (spotP a), vsp (spotP b), vsp (spotP lo), vsp (spotP hi)] ∧ PB a ∧ PB b ∧ PB lo ∧ PB hi ∧ Q (optv (clipF a b lo hi)) M
def spCut : Sp3 := fun ws M Q => ∃ (a b lo hi : Pr), ws = [vpr a, vpr b, .tup [.int lo.1, .int lo.2, .int hi.1, .int hi.2]] ∧ PB a ∧ PB b ∧ PB lo ∧ PB hi ∧ Q (dueF a b (clipF a b lo hi)) M
def spAsSpot : Sp3 := fun ws M Q => ∃ p : Pr, ws = [vpr p] ∧ Q (vsp (spotP p)) M
def spTile : Sp3 := fun ws M Q => ∃ (p : Pr) (n : Int), ws = [vpr p, .int n] ∧ PB p ∧ n.natAbs < 2 ^ 10 ∧ Q (.tup [.int (p.1 * n), .int (p.2 * n), .int ((p.1 + 1) * n), .int ((p.2 + 1) * n)]) M
end G3

set_option Elab.async false
set_option linter.all false
set_option maxRecDepth 100000
set_option maxHeartbeats 4000000
/-! a box meets a straight piece, in plain Lean -/
namespace G3
open PySem L2 PySem.W
def spanR (o : Option (Rt × Rt)) (s far lo hi : Rt) : Option (Rt × Rt) := o.bind fun (a, b) =>
  if far.1 = 0 then (if rcomp lo s ≤ 0 ∧ rcomp s hi ≤ 0 then some (a, b) else none)
  else
    let e1 := rquo (rdif lo s) far
    let e2 := rquo (rdif hi s) far
    let f := if rcomp a (if far.1 < 0 then e2 else e1) < 0 then (if far.1 < 0 then e2 else e1) else a
    let l := if rcomp (if far.1 < 0 then e1 else e2) b < 0 then (if far.1 < 0 then e1 else e2) else b
    if rcomp f l ≤ 0 then some (f, l) else none
def clipR (a b lo hi : Spt) : Option (Rt × Rt) := spanR (spanR (some ((0, 1), (1, 1))) a.1 (rdif b.1 a.1) lo.1 hi.1) a.2 (rdif b.2 a.2) lo.2 hi.2
/-- the share x stays in -/
theorem spanR_in {a b s far lo hi : Rt} {x : Rat} (ha : 0 < a.2) (hb : 0 < b.2) (hs : 0 < s.2) (hf : 0 < far.2) (hl : 0 < lo.2) (hh : 0 < hi.2) (h1 : rq a ≤ x) (h2 : x ≤ rq b) (h3 : rq lo ≤ rq s + x * rq far) (h4 : rq s + x * rq far ≤ rq hi) :
    ∃ r, spanR (some (a, b)) s far lo hi = some r ∧ 0 < r.1.2 ∧ 0 < r.2.2 ∧ rq r.1 ≤ x ∧ x ≤ rq r.2 := by
  show ∃ r, (if far.1 = 0 then (if rcomp lo s ≤ 0 ∧ rcomp s hi ≤ 0 then some (a, b) else none)
  else
    let e1 := rquo (rdif lo s) far
    let e2 := rquo (rdif hi s) far
    let f := if rcomp a (if far.1 < 0 then e2 else e1) < 0 then (if far.1 < 0 then e2 else e1) else a
    let l := if rcomp (if far.1 < 0 then e1 else e2) b < 0 then (if far.1 < 0 then e1 else e2) else b
    if rcomp f l ≤ 0 then some (f, l) else none) = some r ∧ _
  by_cases c : far.1 = 0
  · have z := (rq_zero hf).mp c
    rw [if_pos c, if_pos ⟨(rq_le hl hs).mpr (by rw [z] at h3; grind), (rq_le hs hh).mpr (by rw [z] at h4; grind)⟩]
    exact ⟨_, rfl, ha, hb, h1, h2⟩
  · rw [if_neg c]
    have fz : rq far ≠ 0 := fun z => c ((rq_zero hf).mpr z)
    have d1 : 0 < (rdif lo s).2 := nrm_pos _ _ (mul_ne hl hs)
    have d2 : 0 < (rdif hi s).2 := nrm_pos _ _ (mul_ne hh hs)
    have mn : ∀ {p : Rt}, 0 < p.2 → p.2 * far.1 ≠ 0 := fun {p} hp z => by rcases Int.mul_eq_zero.mp z with z | z <;> omega
    have p1 : 0 < (rquo (rdif lo s) far).2 := nrm_pos _ _ (mn d1)
    have p2 : 0 < (rquo (rdif hi s) far).2 := nrm_pos _ _ (mn d2)
    have q1 : rq (rquo (rdif lo s) far) * rq far = rq lo - rq s := by
      rw [rq_quo d1 hf c, rq_dif hl hs]; grind
    have q2 : rq (rquo (rdif hi s) far) * rq far = rq hi - rq s := by
      rw [rq_quo d2 hf c, rq_dif hh hs]; grind
    generalize rquo (rdif lo s) far = e1 at p1 q1
    generalize rquo (rdif hi s) far = e2 at p2 q2
    -- the two ends in their order
    have key : ∃ u v : Rt, u = (if far.1 < 0 then e2 else e1) ∧ v = (if far.1 < 0 then e1 else e2) ∧ 0 < u.2 ∧ 0 < v.2 ∧ rq u ≤ x ∧ x ≤ rq v := by
      by_cases n : far.1 < 0
      · have fn := (rq_neg hf).mp n
        refine ⟨e2, e1, by rw [if_pos n], by rw [if_pos n], p2, p1, ?_, ?_⟩
        · by_cases w : x < rq e2
          · have := Rat.mul_lt_mul_of_pos_right w (show (0 : Rat) < - rq far by grind)
            grind
          · exact Rat.not_lt.mp w
        · by_cases w : rq e1 < x
          · have := Rat.mul_lt_mul_of_pos_right w (show (0 : Rat) < - rq far by grind)
            grind
          · exact Rat.not_lt.mp w
      · have fp : 0 < rq far := by
          have := fun z => n ((rq_neg hf).mpr z)
          grind
        refine ⟨e1, e2, by rw [if_neg n], by rw [if_neg n], p1, p2, ?_, ?_⟩
        · by_cases w : x < rq e1
          · have := Rat.mul_lt_mul_of_pos_right w fp
            grind
          · exact Rat.not_lt.mp w
        · by_cases w : rq e2 < x
          · have := Rat.mul_lt_mul_of_pos_right w fp
            grind
          · exact Rat.not_lt.mp w
    obtain ⟨u, v, eu, ev, hu, hv, k1, k2⟩ := key
    dsimp only
    rw [← eu, ← ev]
    have hF : 0 < (if rcomp a u < 0 then u else a).2 ∧ rq (if rcomp a u < 0 then u else a) ≤ x := by
      split
      · exact ⟨hu, k1⟩
      · exact ⟨ha, h1⟩
    have hL : 0 < (if rcomp v b < 0 then v else b).2 ∧ x ≤ rq (if rcomp v b < 0 then v else b) := by
      split
      · exact ⟨hv, k2⟩
      · exact ⟨hb, h2⟩
    generalize (if rcomp a u < 0 then u else a) = f at hF
    generalize (if rcomp v b < 0 then v else b) = l at hL
    rw [if_pos ((rq_le hF.1 hL.1).mpr (Rat.le_trans hF.2 hL.2))]
    exact ⟨_, rfl, hF.1, hL.1, hF.2, hL.2⟩
structure SP (s : Spt) : Prop where
  x : 0 < s.1.2
  y : 0 < s.2.2
theorem SB.sp {n : Nat} {s : Spt} (h : SB n s) : SP s := ⟨h.x.pos, h.y.pos⟩
theorem SP.pk {s : Spt} (h : SP s) (k : Bool) : 0 < (G3.pk s k).2 := by
  cases k
  · exact h.x
  · exact h.y
theorem clipR_in {a b lo hi : Spt} {x : Rat} (ha : SP a) (hb : SP b) (hl : SP lo) (hh : SP hi) (h0 : 0 ≤ x) (h1 : x ≤ 1) (h : ∀ k, rq (pk lo k) ≤ rq (pk a k) + x * (rq (pk b k) - rq (pk a k)) ∧ rq (pk a k) + x * (rq (pk b k) - rq (pk a k)) ≤ rq (pk hi k)) : clipR a b lo hi ≠ none := by
  have hx := h false
  have hy := h true
  have f1 : 0 < (rdif b.1 a.1).2 := nrm_pos _ _ (mul_ne hb.x ha.x)
  have f2 : 0 < (rdif b.2 a.2).2 := nrm_pos _ _ (mul_ne hb.y ha.y)
  have e0 : rq (0, 1) = 0 := (rq_zero (p := (0, 1)) (by decide)).mp rfl
  have e1 : rq (1, 1) = 1 := by rw [rq_int]; exact Rat.intCast_one
  obtain ⟨r, er, r1, r2, r3, r4⟩ := spanR_in (a := (0, 1)) (b := (1, 1)) (s := a.1) (far := rdif b.1 a.1) (lo := lo.1) (hi := hi.1) (x := x) (by decide) (by decide) ha.x f1 hl.x hh.x (by rw [e0]; exact h0) (by rw [e1]; exact h1) (by rw [rq_dif hb.x ha.x]; exact hx.1) (by rw [rq_dif hb.x ha.x]; exact hx.2)
  obtain ⟨r', er', _⟩ := spanR_in (a := r.1) (b := r.2) (s := a.2) (far := rdif b.2 a.2) (lo := lo.2) (hi := hi.2) (x := x) r1 r2 ha.y f2 hl.y hh.y r3 r4 (by rw [rq_dif hb.y ha.y]; exact hy.1) (by rw [rq_dif hb.y ha.y]; exact hy.2)
  unfold clipR
  rw [er]
  intro z
  have : some r' = none := er'.symm.trans z
  cases this
/-- the box about a spot -/
def boxL (s : Spt) (r : Rt) : Spt := (rdif s.1 r, rdif s.2 r)
def boxH (s : Spt) (r : Rt) : Spt := (rsum s.1 r, rsum s.2 r)
theorem box_in {a b s : Spt} {r : Rt} {x : Rat} (ha : SP a) (hb : SP b) (hs : SP s) (hr : 0 < r.2) (h0 : 0 ≤ x) (h1 : x ≤ 1) (h : ∀ k, rq (pk s k) - (rq (pk a k) + x * (rq (pk b k) - rq (pk a k))) ≤ rq r ∧ (rq (pk a k) + x * (rq (pk b k) - rq (pk a k))) - rq (pk s k) ≤ rq r) : clipR a b (boxL s r) (boxH s r) ≠ none := by
  refine clipR_in ha hb ⟨nrm_pos _ _ (mul_ne hs.x hr), nrm_pos _ _ (mul_ne hs.y hr)⟩ ⟨nrm_pos _ _ (mul_ne hs.x hr), nrm_pos _ _ (mul_ne hs.y hr)⟩ h0 h1 fun k => ?_
  have hk := h k
  have e1 : rq (pk (boxL s r) k) = rq (pk s k) - rq r := by
    cases k
    · exact rq_dif hs.x hr
    · exact rq_dif hs.y hr
  have e2 : rq (pk (boxH s r) k) = rq (pk s k) + rq r := by
    cases k
    · exact rq_sum hs.x hr
    · exact rq_sum hs.y hr
  rw [e1, e2]
  generalize rq (pk a k) + x * (rq (pk b k) - rq (pk a k)) = w at hk
  constructor <;> grind
theorem btw_q {p lo hi : Rt} (hp : 0 < p.2) (hl : 0 < lo.2) (hh : 0 < hi.2) (h : btw p lo hi = true) : (rq lo ≤ rq p ∧ rq p ≤ rq hi) ∨ (rq hi ≤ rq p ∧ rq p ≤ rq lo) := by
  unfold btw at h
  split at h
  · right
    simp only [Bool.and_eq_true, Bool.not_eq_true', decide_eq_false_iff_not] at h
    exact ⟨Rat.not_lt.mp fun z => h.1 ((rq_lt hp hh).mpr z), Rat.not_lt.mp fun z => h.2 ((rq_lt hl hp).mpr z)⟩
  · left
    simp only [Bool.and_eq_true, Bool.not_eq_true', decide_eq_false_iff_not] at h
    exact ⟨Rat.not_lt.mp fun z => h.1 ((rq_lt hp hl).mpr z), Rat.not_lt.mp fun z => h.2 ((rq_lt hh hp).mpr z)⟩
/-- what may be left out lies within -/
theorem pass_box {a b s : Spt} {t : Int} (ha : SP a) (hb : SP b) (hs : SP s) (ht : 0 ≤ t) (h : passF a b s t = true) : clipR a b (boxL s (t, 1)) (boxH s (t, 1)) ≠ none := by
  unfold passF at h
  rw [Bool.and_eq_true] at h
  obtain ⟨h1, h2⟩ := h
  have hbt := btw_q (hs.pk _) (ha.pk _) (hb.pk _) h1
  have t0 : (0 : Rat) ≤ (t : Rat) := by exact_mod_cast ht
  have et : rq (t, 1) = (t : Rat) := rq_int t
  have dpos : ∀ k, 0 < (rdif (pk b k) (pk a k)).2 := fun k => nrm_pos _ _ (mul_ne (hb.pk k) (ha.pk k))
  have hsh : 0 < (share a b s).2 ∧ 0 ≤ rq (share a b s) ∧ rq (share a b s) ≤ 1 ∧ rq (pk a (longB a b)) + rq (share a b s) * (rq (pk b (longB a b)) - rq (pk a (longB a b))) = rq (pk s (longB a b)) := by
    unfold share shareAt
    generalize longB a b = k at hbt ⊢
    have e0 : rq (0, 1) = 0 := (rq_zero (p := (0, 1)) (by decide)).mp rfl
    split
    · rename_i c
      have z := (rq_zero (dpos k)).mp c
      rw [rq_dif (hb.pk k) (ha.pk k)] at z
      rw [e0]
      refine ⟨by decide, by grind, by grind, ?_⟩
      rcases hbt with w | w <;> grind
    · rename_i c
      have z : rq (pk b k) - rq (pk a k) ≠ 0 := fun z => c ((rq_zero (dpos k)).mpr (by rw [rq_dif (hb.pk k) (ha.pk k)]; exact z))
      have spos : 0 < (rdif (pk s k) (pk a k)).2 := nrm_pos _ _ (mul_ne (hs.pk k) (ha.pk k))
      have qne : (rdif (pk s k) (pk a k)).2 * (rdif (pk b k) (pk a k)).1 ≠ 0 := by
        intro w
        rcases Int.mul_eq_zero.mp w with w | w
        · omega
        · exact c w
      have qpos : 0 < (rquo (rdif (pk s k) (pk a k)) (rdif (pk b k) (pk a k))).2 := nrm_pos _ _ qne
      refine ⟨qpos, ?_⟩
      rw [rq_quo spos (dpos k) c, rq_dif (hs.pk k) (ha.pk k), rq_dif (hb.pk k) (ha.pk k)]
      have em : (rq (pk s k) - rq (pk a k)) / (rq (pk b k) - rq (pk a k)) * (rq (pk b k) - rq (pk a k)) = rq (pk s k) - rq (pk a k) := by grind
      generalize (rq (pk s k) - rq (pk a k)) / (rq (pk b k) - rq (pk a k)) = x at em
      have lim : 0 ≤ x ∧ x ≤ 1 := by
        rcases hbt with w | w
        · have fp : 0 < rq (pk b k) - rq (pk a k) := by grind
          constructor
          · by_cases u : x < 0
            · have := Rat.mul_lt_mul_of_pos_right u fp
              grind
            · exact Rat.not_lt.mp u
          · by_cases u : 1 < x
            · have := Rat.mul_lt_mul_of_pos_right u fp
              grind
            · exact Rat.not_lt.mp u
        · have fp : 0 < rq (pk a k) - rq (pk b k) := by grind
          constructor
          · by_cases u : x < 0
            · have := Rat.mul_lt_mul_of_pos_right u fp
              grind
            · exact Rat.not_lt.mp u
          · by_cases u : 1 < x
            · have := Rat.mul_lt_mul_of_pos_right u fp
              grind
            · exact Rat.not_lt.mp u
      exact ⟨lim.1, lim.2, by rw [em]; grind⟩
  obtain ⟨sp, s0, s1, s2⟩ := hsh
  have hc : ¬ rcomp (t, 1) (asideF a b s) < 0 := by simpa using h2
  unfold asideF at hc
  generalize longB a b = k at hc s2
  have onp : 0 < (onAt (!k) a b (share a b s)).2 := nrm_pos _ _ (mul_ne (ha.pk _) (nrm_pos _ _ (mul_ne sp (dpos _))))
  have eon : rq (onAt (!k) a b (share a b s)) = rq (pk a (!k)) + rq (share a b s) * (rq (pk b (!k)) - rq (pk a (!k))) := by
    unfold onAt
    rw [rq_sum (q := rprod (share a b s) (rdif (pk b !k) (pk a !k))) (ha.pk _) (nrm_pos _ _ (mul_ne sp (dpos _))), rq_prod sp (dpos _), rq_dif (hb.pk _) (ha.pk _)]
  have dp2 : 0 < (rdif (pk s (!k)) (onAt (!k) a b (share a b s))).2 := nrm_pos _ _ (mul_ne (hs.pk _) onp)
  have ed := rq_dif (hs.pk (!k)) onp
  rw [eon] at ed
  generalize rdif (pk s (!k)) (onAt (!k) a b (share a b s)) = dd at hc dp2 ed
  have hab : ¬ rq (t, 1) < rq (rabs dd) := fun z => hc ((rq_lt (p := (t, 1)) (q := rabs dd) Int.one_pos dp2).mpr z)
  rw [rq_abs dp2, et] at hab
  refine box_in (x := rq (share a b s)) ha hb hs Int.one_pos s0 s1 fun k' => ?_
  rw [et]
  by_cases e : k' = k
  · subst e
    rw [s2]
    constructor <;> grind
  · have e' : k' = !k := by cases k <;> cases k' <;> simp_all
    subst e'
    generalize rq (pk a (!k)) + rq (share a b s) * (rq (pk b (!k)) - rq (pk a (!k))) = w at ed
    split at hab <;> constructor <;> grind
theorem end_box {a b s : Spt} {t : Int} (ha : SP a) (hb : SP b) (ht : 0 ≤ t) (h : s = a ∨ s = b) : clipR a b (boxL s (t, 1)) (boxH s (t, 1)) ≠ none := by
  have t0 : (0 : Rat) ≤ (t : Rat) := by exact_mod_cast ht
  have et : rq (t, 1) = (t : Rat) := rq_int t
  rcases h with rfl | rfl
  · refine box_in (x := 0) ha hb ha Int.one_pos (by grind) (by grind) fun k => ?_
    rw [et]
    constructor <;> grind
  · refine box_in (x := 1) ha hb hb Int.one_pos (by grind) (by grind) fun k => ?_
    rw [et]
    constructor <;> grind
end G3

set_option Elab.async false
set_option linter.all false
set_option maxRecDepth 100000
set_option maxHeartbeats 4000000
/-! how far a spot is from a row of pieces, in plain Lean -/
namespace G3
open PySem L2 PySem.W
/-- both within B -/
def FB (x y B : Rat) : Prop := x ≤ B ∧ -x ≤ B ∧ y ≤ B ∧ -y ≤ B
theorem core_sign {xl xt xh yl yt yh : Rat} (mX : (xl ≤ xt ∧ xt ≤ xh) ∨ (xh ≤ xt ∧ xt ≤ xl)) (mY : (yl ≤ yt ∧ yt ≤ yh) ∨ (yh ≤ yt ∧ yt ≤ yl)) (sX : (0 ≤ xl ∧ 0 ≤ xh) ∨ (xl ≤ 0 ∧ xh ≤ 0)) (sY : (0 ≤ yl ∧ 0 ≤ yh) ∨ (yl ≤ 0 ∧ yh ≤ 0))
    (sD : (0 ≤ xl - yl ∧ 0 ≤ xh - yh) ∨ (xl - yl ≤ 0 ∧ xh - yh ≤ 0)) (sS : (0 ≤ xl + yl ∧ 0 ≤ xh + yh) ∨ (xl + yl ≤ 0 ∧ xh + yh ≤ 0)) : (∀ B, FB xt yt B → FB xl yl B) ∨ (∀ B, FB xt yt B → FB xh yh B) := by
  unfold FB
  rcases sX with sX | sX <;> rcases sY with sY | sY <;> rcases sD with sD | sD <;> rcases sS with sS | sS <;> rcases mX with mX | mX <;> rcases mY with mY | mY <;>
    first
    | (left; intro B h; obtain ⟨h1, h2, h3, h4⟩ := h; obtain ⟨a1, a2⟩ := mX; obtain ⟨b1, b2⟩ := mY; obtain ⟨c1, c2⟩ := sX; obtain ⟨d1, d2⟩ := sY; obtain ⟨e1, e2⟩ := sD; obtain ⟨f1, f2⟩ := sS; refine ⟨?_, ?_, ?_, ?_⟩ <;> grind)
    | (right; intro B h; obtain ⟨h1, h2, h3, h4⟩ := h; obtain ⟨a1, a2⟩ := mX; obtain ⟨b1, b2⟩ := mY; obtain ⟨c1, c2⟩ := sX; obtain ⟨d1, d2⟩ := sY; obtain ⟨e1, e2⟩ := sD; obtain ⟨f1, f2⟩ := sS; refine ⟨?_, ?_, ?_, ?_⟩ <;> grind)
theorem lin_mono {p q lo t hi : Rat} (h1 : lo ≤ t) (h2 : t ≤ hi) : (p + lo * q ≤ p + t * q ∧ p + t * q ≤ p + hi * q) ∨ (p + hi * q ≤ p + t * q ∧ p + t * q ≤ p + lo * q) := by
  by_cases c : 0 ≤ q
  · have a := Rat.mul_le_mul_of_nonneg_right h1 c
    have b := Rat.mul_le_mul_of_nonneg_right h2 c
    left; constructor <;> grind
  · have c' : 0 ≤ -q := by grind
    have a := Rat.mul_le_mul_of_nonneg_right h1 c'
    have b := Rat.mul_le_mul_of_nonneg_right h2 c'
    right; constructor <;> grind
theorem has_lo {t : Rat} : ∀ (cs : List Rat), (∃ c ∈ cs, c ≤ t) → ∃ lo ∈ cs, lo ≤ t ∧ ∀ c ∈ cs, c ≤ t → c ≤ lo
  | [], h => by obtain ⟨c, hc, _⟩ := h; cases hc
  | a :: cs, h => by
    by_cases e : ∃ c ∈ cs, c ≤ t
    · obtain ⟨lo, h1, h2, h3⟩ := has_lo cs e
      by_cases f : a ≤ t ∧ lo ≤ a
      · refine ⟨a, by simp, f.1, fun c hc hct => ?_⟩
        rcases List.mem_cons.mp hc with rfl | hc
        · grind
        · have := h3 c hc hct; grind
      · refine ⟨lo, by simp [h1], h2, fun c hc hct => ?_⟩
        rcases List.mem_cons.mp hc with rfl | hc
        · grind
        · exact h3 c hc hct
    · obtain ⟨c, hc, hct⟩ := h
      rcases List.mem_cons.mp hc with rfl | hc
      · refine ⟨c, by simp, hct, fun c' hc' hct' => ?_⟩
        rcases List.mem_cons.mp hc' with rfl | hc'
        · grind
        · exact absurd ⟨c', hc', hct'⟩ e
      · exact absurd ⟨c, hc, hct⟩ e
theorem has_hi {t : Rat} (cs : List Rat) (h : ∃ c ∈ cs, t ≤ c) : ∃ hi ∈ cs, t ≤ hi ∧ ∀ c ∈ cs, t ≤ c → hi ≤ c := by
  obtain ⟨c, hc, hct⟩ := h
  obtain ⟨lo, h1, h2, h3⟩ := has_lo (t := -t) (cs.map fun c => -c) ⟨-c, List.mem_map.mpr ⟨c, hc, rfl⟩, by grind⟩
  obtain ⟨hi, hm, rfl⟩ := List.mem_map.mp h1
  refine ⟨hi, hm, by grind, fun c hc hct => ?_⟩
  have := h3 (-c) (List.mem_map.mpr ⟨c, hc, rfl⟩) (by grind)
  grind
theorem lin_sign {p q lo hi t : Rat} {cs : List Rat} (h0 : 0 ≤ lo) (h1 : hi ≤ 1) (hlt : lo ≤ t) (hth : t ≤ hi) (hl : ∀ c ∈ cs, c ≤ t → c ≤ lo) (hh : ∀ c ∈ cs, t ≤ c → hi ≤ c) (root : q = 0 ∨ ∃ r, p + r * q = 0 ∧ (0 ≤ r → r ≤ 1 → r ∈ cs)) :
    (0 ≤ p + lo * q ∧ 0 ≤ p + hi * q) ∨ (p + lo * q ≤ 0 ∧ p + hi * q ≤ 0) := by
  rcases root with rfl | ⟨r, hr, hm⟩
  · by_cases c : 0 ≤ p
    · left; constructor <;> grind
    · right; constructor <;> grind
  · have key : r ≤ lo ∨ hi ≤ r := by
      by_cases c : r ≤ t
      · by_cases d : 0 ≤ r
        · exact .inl (hl r (hm d (by grind)) c)
        · exact .inl (by grind)
      · by_cases d : r ≤ 1
        · exact .inr (hh r (hm (by grind) d) (by grind))
        · exact .inr (by grind)
    rcases key with k | k
    · have k2 : r ≤ hi := by grind
      by_cases c : 0 ≤ q
      · have a := Rat.mul_le_mul_of_nonneg_right k c
        have b := Rat.mul_le_mul_of_nonneg_right k2 c
        left; constructor <;> grind
      · have c' : 0 ≤ -q := by grind
        have a := Rat.mul_le_mul_of_nonneg_right k c'
        have b := Rat.mul_le_mul_of_nonneg_right k2 c'
        right; constructor <;> grind
    · have k2 : lo ≤ r := by grind
      by_cases c : 0 ≤ q
      · have a := Rat.mul_le_mul_of_nonneg_right k c
        have b := Rat.mul_le_mul_of_nonneg_right k2 c
        right; constructor <;> grind
      · have c' : 0 ≤ -q := by grind
        have a := Rat.mul_le_mul_of_nonneg_right k c'
        have b := Rat.mul_le_mul_of_nonneg_right k2 c'
        left; constructor <;> grind
/-- some share of the row is as near as t -/
theorem near_good {x y A U t : Rat} {cs : List Rat} (h0 : (0 : Rat) ∈ cs) (h1 : (1 : Rat) ∈ cs) (t0 : 0 ≤ t) (t1 : t ≤ 1) (rX : A = 0 ∨ ∃ r, x + r * A = 0 ∧ (0 ≤ r → r ≤ 1 → r ∈ cs)) (rY : U = 0 ∨ ∃ r, y + r * U = 0 ∧ (0 ≤ r → r ≤ 1 → r ∈ cs))
    (rD : A - U = 0 ∨ ∃ r, (x - y) + r * (A - U) = 0 ∧ (0 ≤ r → r ≤ 1 → r ∈ cs)) (rS : A + U = 0 ∨ ∃ r, (x + y) + r * (A + U) = 0 ∧ (0 ≤ r → r ≤ 1 → r ∈ cs)) : ∃ c ∈ cs, ∀ B, FB (x + t * A) (y + t * U) B → FB (x + c * A) (y + c * U) B := by
  obtain ⟨lo, hl, hlt, hlm⟩ := has_lo (t := t) cs ⟨0, h0, t0⟩
  obtain ⟨hi, hh, hth, hhm⟩ := has_hi (t := t) cs ⟨1, h1, t1⟩
  have l0 : 0 ≤ lo := hlm 0 h0 t0
  have l1 : hi ≤ 1 := hhm 1 h1 t1
  have sX := lin_sign l0 l1 hlt hth hlm hhm rX
  have sY := lin_sign l0 l1 hlt hth hlm hhm rY
  have sD := lin_sign l0 l1 hlt hth hlm hhm rD
  have sS := lin_sign l0 l1 hlt hth hlm hhm rS
  have mX := lin_mono (p := x) (q := A) hlt hth
  have mY := lin_mono (p := y) (q := U) hlt hth
  have e1 : ∀ c : Rat, (x - y) + c * (A - U) = (x + c * A) - (y + c * U) := fun c => by grind
  have e2 : ∀ c : Rat, (x + y) + c * (A + U) = (x + c * A) + (y + c * U) := fun c => by grind
  rw [e1, e1] at sD
  rw [e2, e2] at sS
  rcases core_sign mX mY sX sY sD sS with z | z
  · exact ⟨lo, hl, z⟩
  · exact ⟨hi, hh, z⟩
/-! what the program reckons -/
def leastL : List Rt → Rt
  | [] => (0, 1)
  | x :: xs => xs.foldl (fun f o => if rcomp o f < 0 then o else f) x
def apartOf (a b : Spt) : Rt := if rcomp (rabs (rdif a.1 b.1)) (rabs (rdif a.2 b.2)) < 0 then rabs (rdif a.2 b.2) else rabs (rdif a.1 b.1)
def onWay (a b : Spt) (t : Rt) : Spt := (onAt false a b t, onAt true a b t)
def crossF (s f : Rt) : List Rt := if f = (0, 1) then [] else [rquo (rdif (0, 1) s) f]
def sharesF (s a b : Spt) : List Rt := [(0, 1), (1, 1)] ++ crossF (rdif a.1 s.1) (rdif b.1 a.1) ++ crossF (rdif a.2 s.2) (rdif b.2 a.2) ++ crossF (rdif (rdif a.1 s.1) (rdif a.2 s.2)) (rdif (rdif b.1 a.1) (rdif b.2 a.2)) ++ crossF (rsum (rdif a.1 s.1) (rdif a.2 s.2)) (rsum (rdif b.1 a.1) (rdif b.2 a.2))
def goodF (s a b : Spt) : List Rt := (sharesF s a b).filter fun t => !decide (rcomp t (0, 1) < 0) && !decide (rcomp (1, 1) t < 0)
def toPiece (s a b : Spt) : Rt := leastL ((goodF s a b).map fun t => apartOf s (onWay a b t))
def piecesF (row : List Spt) : List (Spt × Spt) := if row.length = 1 then [(row.headD ((0, 1), (0, 1)), row.headD ((0, 1), (0, 1)))] else row.zip (row.drop 1)
def apartF (s : Spt) (row : List Spt) : Rt := leastL ((piecesF row).map fun p => toPiece s p.1 p.2)
theorem foldl_least : ∀ (xs : List Rt) (x : Rt), 0 < x.2 → (∀ y ∈ xs, 0 < y.2) → xs.foldl (fun f o => if rcomp o f < 0 then o else f) x ∈ x :: xs ∧ ∀ y ∈ x :: xs, rq (xs.foldl (fun f o => if rcomp o f < 0 then o else f) x) ≤ rq y
  | [], x, hx, h => ⟨by simp, fun y hy => by
      have : y = x := by simpa using hy
      subst this; exact Rat.le_refl⟩
  | z :: xs, x, hx, h => by
    have hz := h z (by simp)
    rw [List.foldl_cons]
    by_cases c : rcomp z x < 0
    · rw [if_pos c]
      obtain ⟨h1, h2⟩ := foldl_least xs z hz fun y hy => h y (by simp [hy])
      refine ⟨List.mem_cons_of_mem _ h1, fun y hy => ?_⟩
      rcases List.mem_cons.mp hy with rfl | hy
      · have a := h2 z (by simp)
        have b := (rq_lt hz hx).mp c
        grind
      · exact h2 y hy
    · rw [if_neg c]
      obtain ⟨h1, h2⟩ := foldl_least xs x hx fun y hy => h y (by simp [hy])
      refine ⟨?_, fun y hy => ?_⟩
      · rcases List.mem_cons.mp h1 with e | e
        · rw [e]; simp
        · simp [e]
      · rcases List.mem_cons.mp hy with rfl | hy
        · exact h2 y (by simp)
        · rcases List.mem_cons.mp hy with rfl | hy
          · have a := h2 x (by simp)
            have b := fun w => c ((rq_lt hz hx).mpr w)
            grind
          · exact h2 y (by simp [hy])
theorem leastL_mem {xs : List Rt} (h : xs ≠ []) (hp : ∀ y ∈ xs, 0 < y.2) : leastL xs ∈ xs ∧ ∀ y ∈ xs, rq (leastL xs) ≤ rq y := by
  cases xs with
  | nil => exact absurd rfl h
  | cons x xs => exact foldl_least xs x (hp x (by simp)) fun y hy => hp y (by simp [hy])
theorem rabs_le {p : Rt} (hp : 0 < p.2) (B : Rat) : rq (rabs p) ≤ B ↔ rq p ≤ B ∧ - rq p ≤ B := by
  rw [rq_abs hp]
  split
  · constructor
    · intro h; constructor <;> grind
    · intro h; exact h.2
  · constructor
    · intro h; constructor <;> grind
    · intro h; exact h.1
theorem apartOf_le {a b : Spt} (ha : SP a) (hb : SP b) (B : Rat) : rq (apartOf a b) ≤ B ↔ FB (rq a.1 - rq b.1) (rq a.2 - rq b.2) B := by
  have d1 : 0 < (rdif a.1 b.1).2 := nrm_pos _ _ (mul_ne ha.x hb.x)
  have d2 : 0 < (rdif a.2 b.2).2 := nrm_pos _ _ (mul_ne ha.y hb.y)
  have r1 := rabs_le d1 B
  have r2 := rabs_le d2 B
  rw [rq_dif ha.x hb.x] at r1
  rw [rq_dif ha.y hb.y] at r2
  unfold apartOf FB
  have cmp := rq_lt (p := rabs (rdif a.1 b.1)) (q := rabs (rdif a.2 b.2)) d1 d2
  split
  · rename_i c
    have c' := cmp.mp c
    constructor
    · intro h
      have h1 := r2.mp h
      have h2 := r1.mp (by grind)
      exact ⟨h2.1, h2.2, h1.1, h1.2⟩
    · intro h
      exact r2.mpr ⟨h.2.2.1, h.2.2.2⟩
  · rename_i c
    have c' : ¬ rq (rabs (rdif a.1 b.1)) < rq (rabs (rdif a.2 b.2)) := fun z => c (cmp.mpr z)
    constructor
    · intro h
      have h1 := r1.mp h
      have h2 := r2.mp (by grind)
      exact ⟨h1.1, h1.2, h2.1, h2.2⟩
    · intro h
      exact r1.mpr ⟨h.1, h.2.1⟩
theorem apartOf_pos {a b : Spt} (ha : SP a) (hb : SP b) : 0 < (apartOf a b).2 ∧ 0 ≤ (apartOf a b).1 ∧ Int.gcd (apartOf a b).1 (apartOf a b).2 = 1 := by
  have k : ∀ {p q : Rt}, 0 < p.2 → 0 < q.2 → 0 < (rabs (rdif p q)).2 ∧ 0 ≤ (rabs (rdif p q)).1 ∧ Int.gcd (rabs (rdif p q)).1 (rabs (rdif p q)).2 = 1 := fun {p q} hp hq => by
    refine ⟨nrm_pos _ _ (mul_ne hp hq), by show 0 ≤ (((rdif p q).1.natAbs : Int)); omega, ?_⟩
    show Int.gcd (((rdif p q).1.natAbs : Int)) (rdif p q).2 = 1
    rw [Int.gcd, Int.natAbs_natCast]
    exact nrm_cop _ _ (mul_ne hp hq)
  unfold apartOf
  split
  · exact k ha.y hb.y
  · exact k ha.x hb.x
theorem onAt_q {k : Bool} {a b : Spt} {t : Rt} (ha : SP a) (hb : SP b) (ht : 0 < t.2) : 0 < (onAt k a b t).2 ∧ rq (onAt k a b t) = rq (pk a k) + rq t * (rq (pk b k) - rq (pk a k)) := by
  have dpos : 0 < (rdif (pk b k) (pk a k)).2 := nrm_pos _ _ (mul_ne (hb.pk k) (ha.pk k))
  have ppos : 0 < (rprod t (rdif (pk b k) (pk a k))).2 := nrm_pos _ _ (mul_ne ht dpos)
  refine ⟨nrm_pos _ _ (mul_ne (ha.pk k) ppos), ?_⟩
  unfold onAt
  rw [rq_sum (ha.pk k) ppos, rq_prod ht dpos, rq_dif (hb.pk k) (ha.pk k)]
theorem crossF_q {s f : Rt} (hs : 0 < s.2) (hf : 0 < f.2) (hn : f.1 = 0 → f = (0, 1)) : (∀ t ∈ crossF s f, 0 < t.2) ∧ (rq f = 0 ∨ ∃ t ∈ crossF s f, rq s + rq t * rq f = 0) := by
  unfold crossF
  by_cases c : f = (0, 1)
  · rw [if_pos c]
    refine ⟨fun t h => (by cases h), .inl ?_⟩
    rw [c]; exact (rq_zero (p := (0, 1)) (by decide)).mp rfl
  · rw [if_neg c]
    have f0 : f.1 ≠ 0 := fun z => c (hn z)
    have d : 0 < (rdif (0, 1) s).2 := nrm_pos _ _ (mul_ne (by decide) hs)
    have fz : rq f ≠ 0 := fun z => f0 ((rq_zero hf).mpr z)
    have e0 : rq (0, 1) = 0 := (rq_zero (p := (0, 1)) (by decide)).mp rfl
    refine ⟨fun t h => ?_, .inr ⟨_, List.mem_singleton.mpr rfl, ?_⟩⟩
    · rw [List.mem_singleton.mp h]
      exact nrm_pos _ _ (fun z => by rcases Int.mul_eq_zero.mp z with z | z <;> omega)
    · rw [rq_quo d hf f0, rq_dif (by decide) hs, e0]
      grind
theorem rsum_zero {p q : Rt} (hp : 0 < p.2) (hq : 0 < q.2) (h : (rsum p q).1 = 0) : rsum p q = (0, 1) := nrm_zero (mul_ne hp hq) h
theorem sharesF_q {s a b : Spt} (hs : SP s) (ha : SP a) (hb : SP b) : (∀ t ∈ sharesF s a b, 0 < t.2) ∧ ∀ t : Rat, 0 ≤ t → t ≤ 1 → ∃ c ∈ goodF s a b, ∀ B, FB (rq a.1 - rq s.1 + t * (rq b.1 - rq a.1)) (rq a.2 - rq s.2 + t * (rq b.2 - rq a.2)) B → FB (rq a.1 - rq s.1 + rq c * (rq b.1 - rq a.1)) (rq a.2 - rq s.2 + rq c * (rq b.2 - rq a.2)) B := by
  have x1 : 0 < (rdif a.1 s.1).2 := nrm_pos _ _ (mul_ne ha.x hs.x)
  have y1 : 0 < (rdif a.2 s.2).2 := nrm_pos _ _ (mul_ne ha.y hs.y)
  have A1 : 0 < (rdif b.1 a.1).2 := nrm_pos _ _ (mul_ne hb.x ha.x)
  have U1 : 0 < (rdif b.2 a.2).2 := nrm_pos _ _ (mul_ne hb.y ha.y)
  have c1 := crossF_q x1 A1 ((rdif_zero hb.x ha.x).mpr)
  have c2 := crossF_q y1 U1 ((rdif_zero hb.y ha.y).mpr)
  have c3 := crossF_q (s := rdif (rdif a.1 s.1) (rdif a.2 s.2)) (f := rdif (rdif b.1 a.1) (rdif b.2 a.2)) (nrm_pos _ _ (mul_ne x1 y1)) (nrm_pos _ _ (mul_ne A1 U1)) ((rdif_zero A1 U1).mpr)
  have c4 := crossF_q (s := rsum (rdif a.1 s.1) (rdif a.2 s.2)) (f := rsum (rdif b.1 a.1) (rdif b.2 a.2)) (nrm_pos _ _ (mul_ne x1 y1)) (nrm_pos _ _ (mul_ne A1 U1)) (rsum_zero A1 U1)
  rw [rq_dif x1 y1, rq_dif A1 U1] at c3
  rw [rq_sum x1 y1, rq_sum A1 U1] at c4
  rw [rq_dif ha.x hs.x, rq_dif ha.y hs.y, rq_dif hb.x ha.x, rq_dif hb.y ha.y] at c3 c4
  rw [rq_dif ha.x hs.x, rq_dif hb.x ha.x] at c1
  rw [rq_dif ha.y hs.y, rq_dif hb.y ha.y] at c2
  have e0 : rq (0, 1) = 0 := (rq_zero (p := (0, 1)) (by decide)).mp rfl
  have e1 : rq (1, 1) = 1 := by rw [rq_int]; exact Rat.intCast_one
  have pos : ∀ t ∈ sharesF s a b, 0 < t.2 := fun t ht => by
    unfold sharesF at ht
    simp only [List.mem_append, List.mem_cons, List.not_mem_nil, or_false] at ht
    rcases ht with (((h | h) | h) | h) | h
    · rcases h with rfl | rfl <;> decide
    · exact c1.1 t h
    · exact c2.1 t h
    · exact c3.1 t h
    · exact c4.1 t h
  have sub : ∀ t ∈ sharesF s a b, 0 ≤ rq t → rq t ≤ 1 → t ∈ goodF s a b := fun t ht h0 h1 => by
    refine List.mem_filter.mpr ⟨ht, ?_⟩
    have p := pos t ht
    have n1 : ¬ rcomp t (0, 1) < 0 := fun z => by have := (rq_lt p (by decide)).mp z; rw [e0] at this; grind
    have n2 : ¬ rcomp (1, 1) t < 0 := fun z => by have := (rq_lt (by decide) p).mp z; rw [e1] at this; grind
    simp [n1, n2]
  refine ⟨pos, fun t t0 t1 => ?_⟩
  have up : ∀ {p q : Rat} {cs : List Rt}, (∀ t ∈ cs, t ∈ sharesF s a b) → (q = 0 ∨ ∃ t ∈ cs, p + rq t * q = 0) → (q = 0 ∨ ∃ r, p + r * q = 0 ∧ (0 ≤ r → r ≤ 1 → r ∈ (goodF s a b).map rq)) := fun {p q cs} hc h => by
    rcases h with h | ⟨t, ht, e⟩
    · exact .inl h
    · exact .inr ⟨rq t, e, fun a0 a1 => List.mem_map.mpr ⟨t, sub t (hc t ht) a0 a1, rfl⟩⟩
  have hmem : ∀ t, t = (0, 1) ∨ t = (1, 1) → t ∈ sharesF s a b := fun t h => by
    unfold sharesF
    simp only [List.mem_append, List.mem_cons, List.not_mem_nil, or_false]
    exact .inl (.inl (.inl (.inl h)))
  obtain ⟨c, hc, hB⟩ := near_good (t := t) (cs := (goodF s a b).map rq) (List.mem_map.mpr ⟨(0, 1), sub _ (hmem _ (.inl rfl)) (by rw [e0]; grind) (by rw [e0]; grind), e0⟩) (List.mem_map.mpr ⟨(1, 1), sub _ (hmem _ (.inr rfl)) (by rw [e1]; grind) (by rw [e1]; grind), e1⟩) t0 t1
    (up (fun t h => by unfold sharesF; simp only [List.mem_append]; exact .inl (.inl (.inl (.inr h)))) c1.2) (up (fun t h => by unfold sharesF; simp only [List.mem_append]; exact .inl (.inl (.inr h))) c2.2)
    (up (fun t h => by unfold sharesF; simp only [List.mem_append]; exact .inl (.inr h)) c3.2) (up (fun t h => by unfold sharesF; simp only [List.mem_append]; exact .inr h) c4.2)
  obtain ⟨r, hr, rfl⟩ := List.mem_map.mp hc
  exact ⟨r, hr, hB⟩
theorem good_lim {s a b : Spt} (hs : SP s) (ha : SP a) (hb : SP b) {t : Rt} (h : t ∈ goodF s a b) : 0 < t.2 ∧ 0 ≤ rq t ∧ rq t ≤ 1 := by
  obtain ⟨h1, h2⟩ := List.mem_filter.mp h
  have p := (sharesF_q hs ha hb).1 t h1
  have e0 : rq (0, 1) = 0 := (rq_zero (p := (0, 1)) (by decide)).mp rfl
  have e1 : rq (1, 1) = 1 := by rw [rq_int]; exact Rat.intCast_one
  simp only [Bool.and_eq_true, Bool.not_eq_true', decide_eq_false_iff_not] at h2
  refine ⟨p, ?_, ?_⟩
  · have := fun z => h2.1 ((rq_lt p (by decide)).mpr z); rw [e0] at this; grind
  · have := fun z => h2.2 ((rq_lt (by decide) p).mpr z); rw [e1] at this; grind
/-- the spot lies within B of the piece -/
def Within (s a b : Spt) (B : Rat) : Prop := ∃ t : Rat, 0 ≤ t ∧ t ≤ 1 ∧ FB (rq a.1 - rq s.1 + t * (rq b.1 - rq a.1)) (rq a.2 - rq s.2 + t * (rq b.2 - rq a.2)) B
theorem FB.neg {x y B : Rat} (h : FB x y B) : FB (-x) (-y) B := ⟨h.2.1, by rw [Rat.neg_neg]; exact h.1, h.2.2.2, by rw [Rat.neg_neg]; exact h.2.2.1⟩
/-- a distance in lowest terms -/
def Dist (r : Rt) : Prop := 0 < r.2 ∧ 0 ≤ r.1 ∧ Int.gcd r.1 r.2 = 1
theorem toPiece_q {s a b : Spt} (hs : SP s) (ha : SP a) (hb : SP b) : Dist (toPiece s a b) ∧ ∀ B, Within s a b B ↔ rq (toPiece s a b) ≤ B := by
  have hne : goodF s a b ≠ [] := fun z => by
    obtain ⟨c, hc, _⟩ := (sharesF_q hs ha hb).2 0 (by grind) (by grind)
    rw [z] at hc; cases hc
  have hw : ∀ t ∈ goodF s a b, SP (onWay a b t) := fun t ht => ⟨(onAt_q (k := false) ha hb (good_lim hs ha hb ht).1).1, (onAt_q (k := true) ha hb (good_lim hs ha hb ht).1).1⟩
  have hl := leastL_mem (xs := (goodF s a b).map fun t => apartOf s (onWay a b t)) (by simpa using hne) fun y hy => by
    obtain ⟨t, ht, rfl⟩ := List.mem_map.mp hy
    exact (apartOf_pos hs (hw t ht)).1
  have eB : ∀ t ∈ goodF s a b, ∀ B, rq (apartOf s (onWay a b t)) ≤ B ↔ FB (rq a.1 - rq s.1 + rq t * (rq b.1 - rq a.1)) (rq a.2 - rq s.2 + rq t * (rq b.2 - rq a.2)) B := fun t ht B => by
    have ht2 := (good_lim hs ha hb ht).1
    rw [apartOf_le hs (hw t ht)]
    have e1 : rq (onWay a b t).1 = rq a.1 + rq t * (rq b.1 - rq a.1) := (onAt_q (k := false) ha hb ht2).2
    have e2 : rq (onWay a b t).2 = rq a.2 + rq t * (rq b.2 - rq a.2) := (onAt_q (k := true) ha hb ht2).2
    rw [e1, e2]
    have n1 : rq a.1 - rq s.1 + rq t * (rq b.1 - rq a.1) = -(rq s.1 - (rq a.1 + rq t * (rq b.1 - rq a.1))) := by grind
    have n2 : rq a.2 - rq s.2 + rq t * (rq b.2 - rq a.2) = -(rq s.2 - (rq a.2 + rq t * (rq b.2 - rq a.2))) := by grind
    rw [n1, n2]
    constructor
    · exact FB.neg
    · intro h; have := h.neg; rw [Rat.neg_neg, Rat.neg_neg] at this; exact this
  obtain ⟨t, ht, et⟩ := List.mem_map.mp hl.1
  have et' : toPiece s a b = apartOf s (onWay a b t) := et.symm
  refine ⟨by rw [et']; exact apartOf_pos hs (hw t ht), fun B => ⟨fun ⟨u, u0, u1, hu⟩ => ?_, fun h => ?_⟩⟩
  · obtain ⟨c, hc, hB⟩ := (sharesF_q hs ha hb).2 u u0 u1
    exact Rat.le_trans (hl.2 _ (List.mem_map.mpr ⟨c, hc, rfl⟩)) ((eB c hc B).mpr (hB B hu))
  · rw [et'] at h
    exact ⟨rq t, (good_lim hs ha hb ht).2.1, (good_lim hs ha hb ht).2.2, (eB t ht B).mp h⟩
theorem piecesF_sp {row : List Spt} (h : ∀ s ∈ row, SP s) (hn : row ≠ []) : piecesF row ≠ [] ∧ ∀ p ∈ piecesF row, SP p.1 ∧ SP p.2 := by
  unfold piecesF
  cases row with
  | nil => exact absurd rfl hn
  | cons a r =>
    cases r with
    | nil => exact ⟨by simp, fun p hp => by
        have : p = (a, a) := by simpa using hp
        subst this; exact ⟨h a (by simp), h a (by simp)⟩⟩
    | cons b r =>
      rw [if_neg (by simp)]
      refine ⟨by simp, fun p hp => ?_⟩
      obtain ⟨h1, h2⟩ := List.of_mem_zip (a := p.1) (b := p.2) hp
      exact ⟨h _ h1, h _ (List.mem_of_mem_drop h2)⟩
theorem apartF_q {s : Spt} {row : List Spt} (hs : SP s) (h : ∀ s ∈ row, SP s) (hn : row ≠ []) : Dist (apartF s row) ∧ ∀ B, (∃ p ∈ piecesF row, Within s p.1 p.2 B) ↔ rq (apartF s row) ≤ B := by
  obtain ⟨p1, p2⟩ := piecesF_sp h hn
  have hl := leastL_mem (xs := (piecesF row).map fun p => toPiece s p.1 p.2) (by simpa using p1) fun y hy => by
    obtain ⟨p, hp, rfl⟩ := List.mem_map.mp hy
    exact (toPiece_q hs (p2 p hp).1 (p2 p hp).2).1.1
  obtain ⟨p, hp, ep⟩ := List.mem_map.mp hl.1
  have ep' : apartF s row = toPiece s p.1 p.2 := ep.symm
  refine ⟨by rw [ep']; exact (toPiece_q hs (p2 p hp).1 (p2 p hp).2).1, fun B => ⟨fun ⟨q, hq, hw⟩ => ?_, fun hB => ?_⟩⟩
  · exact Rat.le_trans (hl.2 _ (List.mem_map.mpr ⟨q, hq, rfl⟩)) (((toPiece_q hs (p2 q hq).1 (p2 q hq).2).2 B).mp hw)
  · rw [ep'] at hB
    exact ⟨p, hp, ((toPiece_q hs (p2 p hp).1 (p2 p hp).2).2 B).mpr hB⟩
end G3

set_option Elab.async false
set_option linter.all false
set_option maxRecDepth 100000
set_option maxHeartbeats 4000000
/-! promises of the distances, and how long the numbers grow -/
namespace G3
open PySem L2 PySem.W
def spLeast : Sp3 := fun ws M Q => ∃ (w : VV) (xs : List Rt), ws = [w] ∧ Lst M w (xs.map vr) ∧ xs ≠ [] ∧ (∀ x ∈ xs, RB BIG x) ∧ xs.length ≤ 1000 ∧ Q (vr (leastL xs)) M
def spApartOf : Sp3 := fun ws M Q => ∃ a b : Spt, ws = [vsp a, vsp b] ∧ SB 1900 a ∧ SB 1900 b ∧ Q (vr (apartOf a b)) M
def spCross : Sp3 := fun ws M Q => ∃ s f : Rt, ws = [vr s, vr f] ∧ RB 1000 s ∧ RB 500 f ∧ (f.1 = 0 → f = (0, 1)) ∧ ∀ p, M p = none → Q (.ref p) (updM M p (.lst ((crossF s f).map vr)))
def spToPiece : Sp3 := fun ws M Q => ∃ s a b : Spt, ws = [vsp s, vsp a, vsp b] ∧ SB 320 s ∧ SB 104 a ∧ SB 104 b ∧ Q (vr (toPiece s a b)) M
abbrev vpp (p : Spt × Spt) : VV := .tup [vsp p.1, vsp p.2]
def spPiecesOf : Sp3 := fun ws M Q => ∃ (w : VV) (row : List Spt), ws = [w] ∧ Lst M w (row.map vsp) ∧ row ≠ [] ∧ row.length ≤ 1000 ∧ ∀ p, M p = none → Q (.ref p) (updM M p (.lst ((piecesF row).map vpp)))
def spApart : Sp3 := fun ws M Q => ∃ (w : VV) (s : Spt) (row : List Spt), ws = [vsp s, w] ∧ Lst M w (row.map vsp) ∧ row ≠ [] ∧ row.length ≤ 100 ∧ SB 320 s ∧ (∀ s ∈ row, SB 104 s) ∧ Q (vr (apartF s row)) M
theorem leastL_in {xs : List Rt} (h : xs ≠ []) (hp : ∀ y ∈ xs, 0 < y.2) : leastL xs ∈ xs := (leastL_mem h hp).1
theorem apartOf_bits {n m : Nat} {a b : Spt} (ha : SB n a) (hb : SB m b) : RB (n + m + 1) (apartOf a b) := by
  unfold apartOf
  split
  · exact (ha.y.dif hb.y).abs
  · exact (ha.x.dif hb.x).abs
theorem crossF_bits {n m : Nat} {s f : Rt} (hs : RB n s) (hf : RB m f) (hn : f.1 = 0 → f = (0, 1)) : ∀ t ∈ crossF s f, RB (1 + n + 1 + m) t := fun t h => by
  unfold crossF at h
  by_cases c : f = (0, 1)
  · rw [if_pos c] at h; cases h
  · rw [if_neg c] at h
    rw [List.mem_singleton.mp h]
    exact (RB.zero.dif hs).quo hf fun z => c (hn z)
theorem shares_bits {s a b : Spt} (hs : SB 320 s) (ha : SB 104 a) (hb : SB 104 b) : ∀ t ∈ sharesF s a b, RB 1272 t := fun t h => by
  have x1 := ha.x.dif hs.x
  have y1 := ha.y.dif hs.y
  have A1 := hb.x.dif ha.x
  have U1 := hb.y.dif ha.y
  unfold sharesF at h
  simp only [List.mem_append, List.mem_cons, List.not_mem_nil, or_false] at h
  rcases h with (((h | h) | h) | h) | h
  · rcases h with rfl | rfl
    · exact RB.zero.mono (by decide)
    · exact ⟨Nat.one_lt_two_pow (by decide), Nat.one_lt_two_pow (by decide), by decide⟩
  · exact (crossF_bits x1 A1 ((rdif_zero hb.x.pos ha.x.pos).mpr) t h).mono (by decide)
  · exact (crossF_bits y1 U1 ((rdif_zero hb.y.pos ha.y.pos).mpr) t h).mono (by decide)
  · exact (crossF_bits (x1.dif y1) (A1.dif U1) ((rdif_zero A1.pos U1.pos).mpr) t h).mono (by decide)
  · exact (crossF_bits (x1.sum y1) (A1.sum U1) (rsum_zero A1.pos U1.pos) t h).mono (by decide)
theorem good_bits {s a b : Spt} (hs : SB 320 s) (ha : SB 104 a) (hb : SB 104 b) : ∀ t ∈ goodF s a b, RB 1272 t := fun t h => shares_bits hs ha hb t (List.mem_filter.mp h).1
theorem onWay_bits {a b : Spt} {t : Rt} (ha : SB 104 a) (hb : SB 104 b) (ht : RB 1272 t) : SB 1586 (onWay a b t) :=
  ⟨(ha.x.sum (ht.prod (hb.x.dif ha.x))).mono (by decide), (ha.y.sum (ht.prod (hb.y.dif ha.y))).mono (by decide)⟩
theorem good_ne {s a b : Spt} (hs : SP s) (ha : SP a) (hb : SP b) : goodF s a b ≠ [] := fun z => by
  obtain ⟨c, hc, _⟩ := (sharesF_q hs ha hb).2 0 (by grind) (by grind)
  rw [z] at hc; cases hc
theorem crossF_len {s f : Rt} : (crossF s f).length ≤ 1 := by
  unfold crossF
  split
  · exact Nat.zero_le _
  · exact Nat.le_refl _
theorem shares_len {s a b : Spt} : (sharesF s a b).length ≤ 6 := by
  unfold sharesF
  have h1 := crossF_len (s := rdif a.1 s.1) (f := rdif b.1 a.1)
  have h2 := crossF_len (s := rdif a.2 s.2) (f := rdif b.2 a.2)
  have h3 := crossF_len (s := rdif (rdif a.1 s.1) (rdif a.2 s.2)) (f := rdif (rdif b.1 a.1) (rdif b.2 a.2))
  have h4 := crossF_len (s := rsum (rdif a.1 s.1) (rdif a.2 s.2)) (f := rsum (rdif b.1 a.1) (rdif b.2 a.2))
  simp only [List.length_append, List.length_cons, List.length_nil]
  omega
theorem toPiece_bits {s a b : Spt} (hs : SB 320 s) (ha : SB 104 a) (hb : SB 104 b) : RB 1907 (toPiece s a b) := by
  have hne := good_ne hs.sp ha.sp hb.sp
  have hin := leastL_in (xs := (goodF s a b).map fun t => apartOf s (onWay a b t)) (by simpa using hne) fun y hy => by
    obtain ⟨t, ht, rfl⟩ := List.mem_map.mp hy
    exact (apartOf_bits hs (onWay_bits ha hb (good_bits hs ha hb t ht))).pos
  obtain ⟨t, ht, et⟩ := List.mem_map.mp hin
  show RB 1907 (leastL _)
  rw [← et]
  exact apartOf_bits hs (onWay_bits ha hb (good_bits hs ha hb t ht))
theorem pieces_bits {row : List Spt} (h : ∀ s ∈ row, SB 104 s) : ∀ p ∈ piecesF row, SB 104 p.1 ∧ SB 104 p.2 := fun p hp => by
  unfold piecesF at hp
  split at hp
  · rename_i c
    cases row with
    | nil => cases c
    | cons a r =>
      have : p = (a, a) := by simpa using hp
      subst this; exact ⟨h a (by simp), h a (by simp)⟩
  · obtain ⟨h1, h2⟩ := List.of_mem_zip (a := p.1) (b := p.2) hp
    exact ⟨h _ h1, h _ (List.mem_of_mem_drop h2)⟩
theorem pieces_len {row : List Spt} : (piecesF row).length ≤ row.length := by
  unfold piecesF
  split
  · rename_i c; rw [c]; exact Nat.le_refl _
  · rw [List.length_zip]; exact Nat.min_le_left _ _
theorem apartF_bits {s : Spt} {row : List Spt} (hs : SB 320 s) (h : ∀ s ∈ row, SB 104 s) (hn : row ≠ []) : RB 1907 (apartF s row) := by
  have hne := (piecesF_sp (fun s hs => (h s hs).sp) hn).1
  have hin := leastL_in (xs := (piecesF row).map fun p => toPiece s p.1 p.2) (by simpa using hne) fun y hy => by
    obtain ⟨p, hp, rfl⟩ := List.mem_map.mp hy
    exact (toPiece_bits hs (pieces_bits h p hp).1 (pieces_bits h p hp).2).pos
  obtain ⟨p, hp, ep⟩ := List.mem_map.mp hin
  show RB 1907 (leastL _)
  rw [← ep]
  exact toPiece_bits hs (pieces_bits h p hp).1 (pieces_bits h p hp).2
theorem zip_vsp {row : List Spt} : zipV (row.map vsp) ((row.drop 1).map vsp) = (row.zip (row.drop 1)).map vpp := by
  unfold zipV
  rw [List.zip_map, List.map_map]
  rfl
theorem o2_catM {X : Cx} {M : Mp} {Q : VQ} {α : Type} {v : α → VV} {p r : Addr} (us ws : List α) (h1 : M p = some (.lst (us.map v))) (h2 : M r = some (.lst (ws.map v))) (hz : us.length + ws.length ≤ 1000)
    (q : ∀ l M', LeM M M' → M' l = some (.lst ((us ++ ws).map v)) → Q (.ref l) M') : O2 X (binaryOp .Add) (.ref p) (.ref r) M Q :=
  o2_cat h1 h2 (by rw [List.length_map, List.length_map]; exact Nat.le_trans hz (by decide)) fun l nl => q l _ (LeM.new nl) (by rw [updM_same, List.map_append])
def spCornersN : Sp3 := fun ws M Q => ∃ (b : Addr) (many : Int), ws = [.ref b, .int many] ∧ M b = some .bag ∧ 0 < many ∧ many ≤ 10 ∧ ∀ (p : Addr) (row : List Spt), M p = none → 2 ≤ row.length → (row.length : Int) ≤ many + 1 → (∀ s ∈ row, SB (14 + 15 * row.length) s) → Q (.ref p) (updM M p (.lst (row.map vsp)))
def spIsRatio : Sp3 := fun ws M Q => ∃ p : Rt, ws = [vr p] ∧ 0 < p.2 ∧ Int.gcd p.1 p.2 = 1 ∧ p.2.natAbs < 2 ^ 8990 ∧ Q (.bl true) M
theorem nrm_self {p : Rt} (h : 0 < p.2) (g : Int.gcd p.1 p.2 = 1) : nrm p.1 p.2 = p := by
  unfold nrm
  rw [if_neg (by omega), g]
  show (p.1.fdiv 1, p.2.fdiv 1) = p
  rw [Int.fdiv_one, Int.fdiv_one]
/-- some piece comes within r of the spot, as the law asks it -/
def reachF (row : List Spt) (s : Spt) (r : Rt) : Bool := (List.range row.length).any fun k => (clipR (row.getD (k - 1) ((0, 1), (0, 1))) (row.getD k ((0, 1), (0, 1))) (boxL s r) (boxH s r)).isSome
def spReachF : Sp3 := fun ws M Q => ∃ (w : VV) (row : List Spt) (s : Spt) (r : Rt), ws = [vsp s, w, vr r] ∧ Lst M w (row.map vsp) ∧ row.length ≤ 1000 ∧ (∀ s ∈ row, SB CB s) ∧ SB CB s ∧ RB 2000 r ∧ Q (.bl (reachF row s r)) M
/-! what the clipped share says -/
theorem spanR_out {a b s far lo hi : Rt} {r : Rt × Rt} (ha : 0 < a.2) (hb : 0 < b.2) (hs : 0 < s.2) (hf : 0 < far.2) (hl : 0 < lo.2) (hh : 0 < hi.2) (h : spanR (some (a, b)) s far lo hi = some r) (hab : rq a ≤ rq b) :
    0 < r.1.2 ∧ 0 < r.2.2 ∧ rq a ≤ rq r.1 ∧ rq r.1 ≤ rq r.2 ∧ rq r.2 ≤ rq b ∧ ∀ x, rq r.1 ≤ x → x ≤ rq r.2 → rq lo ≤ rq s + x * rq far ∧ rq s + x * rq far ≤ rq hi := by
  have h' : (if far.1 = 0 then (if rcomp lo s ≤ 0 ∧ rcomp s hi ≤ 0 then some (a, b) else none)
    else
      let e1 := rquo (rdif lo s) far
      let e2 := rquo (rdif hi s) far
      let f := if rcomp a (if far.1 < 0 then e2 else e1) < 0 then (if far.1 < 0 then e2 else e1) else a
      let l := if rcomp (if far.1 < 0 then e1 else e2) b < 0 then (if far.1 < 0 then e1 else e2) else b
      if rcomp f l ≤ 0 then some (f, l) else none) = some r := h
  clear h
  by_cases c : far.1 = 0
  · rw [if_pos c] at h'
    have z := (rq_zero hf).mp c
    split at h'
    · rename_i d
      cases h'
      have d1 := (rq_le hl hs).mp d.1
      have d2 := (rq_le hs hh).mp d.2
      refine ⟨ha, hb, Rat.le_refl, hab, Rat.le_refl, fun x _ _ => ?_⟩
      rw [z]
      constructor <;> grind
    · cases h'
  · rw [if_neg c] at h'
    have d1 : 0 < (rdif lo s).2 := nrm_pos _ _ (mul_ne hl hs)
    have d2 : 0 < (rdif hi s).2 := nrm_pos _ _ (mul_ne hh hs)
    have mn : ∀ {p : Rt}, 0 < p.2 → p.2 * far.1 ≠ 0 := fun {p} hp z => by rcases Int.mul_eq_zero.mp z with z | z <;> omega
    have p1 : 0 < (rquo (rdif lo s) far).2 := nrm_pos _ _ (mn d1)
    have p2 : 0 < (rquo (rdif hi s) far).2 := nrm_pos _ _ (mn d2)
    have fz : rq far ≠ 0 := fun z => c ((rq_zero hf).mpr z)
    have q1 : rq (rquo (rdif lo s) far) * rq far = rq lo - rq s := by
      rw [rq_quo d1 hf c, rq_dif hl hs]; grind
    have q2 : rq (rquo (rdif hi s) far) * rq far = rq hi - rq s := by
      rw [rq_quo d2 hf c, rq_dif hh hs]; grind
    generalize rquo (rdif lo s) far = e1 at p1 q1 h'
    generalize rquo (rdif hi s) far = e2 at p2 q2 h'
    dsimp only at h'
    have key : ∃ u v : Rt, u = (if far.1 < 0 then e2 else e1) ∧ v = (if far.1 < 0 then e1 else e2) ∧ 0 < u.2 ∧ 0 < v.2 ∧ ∀ x, rq u ≤ x → x ≤ rq v → rq lo ≤ rq s + x * rq far ∧ rq s + x * rq far ≤ rq hi := by
      by_cases n : far.1 < 0
      · have fn := (rq_neg hf).mp n
        refine ⟨e2, e1, by rw [if_pos n], by rw [if_pos n], p2, p1, fun x k1 k2 => ?_⟩
        have m1 := Rat.mul_le_mul_of_nonneg_right k1 (show (0 : Rat) ≤ - rq far by grind)
        have m2 := Rat.mul_le_mul_of_nonneg_right k2 (show (0 : Rat) ≤ - rq far by grind)
        constructor <;> grind
      · have fp : 0 ≤ rq far := by
          have := fun z => n ((rq_neg hf).mpr z)
          grind
        refine ⟨e1, e2, by rw [if_neg n], by rw [if_neg n], p1, p2, fun x k1 k2 => ?_⟩
        have m1 := Rat.mul_le_mul_of_nonneg_right k1 fp
        have m2 := Rat.mul_le_mul_of_nonneg_right k2 fp
        constructor <;> grind
    obtain ⟨u, v, eu, ev, hu, hv, hx⟩ := key
    rw [← eu, ← ev] at h'
    have hF : 0 < (if rcomp a u < 0 then u else a).2 ∧ rq u ≤ rq (if rcomp a u < 0 then u else a) ∧ rq a ≤ rq (if rcomp a u < 0 then u else a) := by
      split
      · rename_i w; have := (rq_lt ha hu).mp w; exact ⟨hu, Rat.le_refl, by grind⟩
      · rename_i w; have := fun z => w ((rq_lt ha hu).mpr z); exact ⟨ha, by grind, Rat.le_refl⟩
    have hL : 0 < (if rcomp v b < 0 then v else b).2 ∧ rq (if rcomp v b < 0 then v else b) ≤ rq v ∧ rq (if rcomp v b < 0 then v else b) ≤ rq b := by
      split
      · rename_i w; have := (rq_lt hv hb).mp w; exact ⟨hv, Rat.le_refl, by grind⟩
      · rename_i w; have := fun z => w ((rq_lt hv hb).mpr z); exact ⟨hb, by grind, Rat.le_refl⟩
    generalize (if rcomp a u < 0 then u else a) = f at hF h'
    generalize (if rcomp v b < 0 then v else b) = l at hL h'
    split at h'
    · rename_i w
      cases h'
      have w' := (rq_le hF.1 hL.1).mp w
      exact ⟨hF.1, hL.1, hF.2.2, w', hL.2.2, fun x k1 k2 => hx x (by have := hF.2.1; grind) (by have := hL.2.1; grind)⟩
    · cases h'
theorem reach_within {a b s : Spt} {r : Rt} (ha : SP a) (hb : SP b) (hs : SP s) (hr : 0 < r.2) : (clipR a b (boxL s r) (boxH s r)).isSome = true ↔ Within s a b (rq r) := by
  have bl : SP (boxL s r) := ⟨nrm_pos _ _ (mul_ne hs.x hr), nrm_pos _ _ (mul_ne hs.y hr)⟩
  have bh : SP (boxH s r) := ⟨nrm_pos _ _ (mul_ne hs.x hr), nrm_pos _ _ (mul_ne hs.y hr)⟩
  have l1 : rq (boxL s r).1 = rq s.1 - rq r := rq_dif hs.x hr
  have l2 : rq (boxL s r).2 = rq s.2 - rq r := rq_dif hs.y hr
  have h1 : rq (boxH s r).1 = rq s.1 + rq r := rq_sum hs.x hr
  have h2 : rq (boxH s r).2 = rq s.2 + rq r := rq_sum hs.y hr
  constructor
  · intro h
    obtain ⟨z, hz⟩ := Option.isSome_iff_exists.mp h
    unfold clipR at hz
    have f1 : 0 < (rdif b.1 a.1).2 := nrm_pos _ _ (mul_ne hb.x ha.x)
    have f2 : 0 < (rdif b.2 a.2).2 := nrm_pos _ _ (mul_ne hb.y ha.y)
    have e0 : rq (0, 1) = 0 := (rq_zero (p := (0, 1)) (by decide)).mp rfl
    have e1 : rq (1, 1) = 1 := by rw [rq_int]; exact Rat.intCast_one
    cases hm : spanR (some ((0, 1), (1, 1))) a.1 (rdif b.1 a.1) (boxL s r).1 (boxH s r).1 with
    | none => rw [hm] at hz; cases hz
    | some m =>
      rw [hm] at hz
      obtain ⟨m1, m2, m3, m4, m5, m6⟩ := spanR_out (by decide) (by decide) ha.x f1 bl.x bh.x hm (by rw [e0, e1]; grind)
      obtain ⟨n1, n2, n3, n4, n5, n6⟩ := spanR_out (a := m.1) (b := m.2) m1 m2 ha.y f2 bl.y bh.y hz m4
      rw [e0] at m3
      rw [e1] at m5
      have k1 := m6 (rq z.1) n3 (Rat.le_trans n4 n5)
      have k2 := n6 (rq z.1) Rat.le_refl n4
      rw [rq_dif hb.x ha.x, l1, h1] at k1
      rw [rq_dif hb.y ha.y, l2, h2] at k2
      refine ⟨rq z.1, by grind, by grind, ?_⟩
      unfold FB
      generalize rq z.1 * (rq b.1 - rq a.1) = g1 at k1 ⊢
      generalize rq z.1 * (rq b.2 - rq a.2) = g2 at k2 ⊢
      refine ⟨?_, ?_, ?_, ?_⟩ <;> grind
  · rintro ⟨t, t0, t1, g1, g2, g3, g4⟩
    have := box_in (x := t) ha hb hs hr t0 t1 fun k => by
      cases k
      · show rq s.1 - (rq a.1 + t * (rq b.1 - rq a.1)) ≤ rq r ∧ (rq a.1 + t * (rq b.1 - rq a.1)) - rq s.1 ≤ rq r
        generalize t * (rq b.1 - rq a.1) = y at g1 g2
        constructor <;> grind
      · show rq s.2 - (rq a.2 + t * (rq b.2 - rq a.2)) ≤ rq r ∧ (rq a.2 + t * (rq b.2 - rq a.2)) - rq s.2 ≤ rq r
        generalize t * (rq b.2 - rq a.2) = y at g3 g4
        constructor <;> grind
    exact Option.isSome_iff_ne_none.mpr this
/-- the law's pieces and the program's say the same -/
theorem reachF_is {row : List Spt} {s : Spt} {r : Rt} (h : ∀ s ∈ row, SP s) (hn : row ≠ []) (hs : SP s) (hr : 0 < r.2) : reachF row s r = true ↔ rq (apartF s row) ≤ rq r := by
  rw [← (apartF_q hs h hn).2]
  unfold reachF
  rw [List.any_eq_true]
  constructor
  · rintro ⟨k, hk, hc⟩
    have hk' := List.mem_range.mp hk
    have gk : row.getD k ((0, 1), (0, 1)) = row[k] := by simp [List.getD_eq_getElem?_getD, hk']
    have gk1 : row.getD (k - 1) ((0, 1), (0, 1)) = row[k - 1] := by simp [List.getD_eq_getElem?_getD, show k - 1 < row.length by omega]
    rw [gk, gk1] at hc
    have hw := (reach_within (h _ (List.getElem_mem _)) (h _ (List.getElem_mem _)) hs hr).mp hc
    unfold piecesF
    by_cases c : row.length = 1
    · rw [if_pos c]
      have k0 : k = 0 := by omega
      subst k0
      have e : row.headD ((0, 1), (0, 1)) = row[0] := by
        cases row with
        | nil => exact absurd rfl hn
        | cons a t => rfl
      exact ⟨_, List.mem_singleton.mpr rfl, by rw [e]; exact hw⟩
    · rw [if_neg c]
      by_cases k0 : k = 0
      · subst k0
        obtain ⟨t, t0, t1, hf⟩ := hw
        refine ⟨(row[0], row[1]), List.mem_iff_getElem?.mpr ⟨0, List.getElem?_zip_eq_some.mpr ⟨by simp [hk'], by rw [List.getElem?_drop]; simp [show 1 < row.length by omega]⟩⟩, (0 : Rat), by grind, by grind, ?_⟩
        have e : ∀ (x y : Rat), x - y + t * (x - x) = x - y := fun x y => by grind
        have e' : ∀ (x y z : Rat), x - y + (0 : Rat) * (z - x) = x - y := fun x y z => by grind
        show FB (rq row[0].1 - rq s.1 + (0 : Rat) * (rq row[1].1 - rq row[0].1)) (rq row[0].2 - rq s.2 + (0 : Rat) * (rq row[1].2 - rq row[0].2)) _
        rw [e', e']
        change FB (rq row[0].1 - rq s.1 + t * (rq row[0].1 - rq row[0].1)) (rq row[0].2 - rq s.2 + t * (rq row[0].2 - rq row[0].2)) _ at hf
        rw [e, e] at hf
        exact hf
      · refine ⟨(row[k - 1], row[k]), List.mem_iff_getElem?.mpr ⟨k - 1, List.getElem?_zip_eq_some.mpr ⟨by simp [show k - 1 < row.length by omega], ?_⟩⟩, hw⟩
        rw [List.getElem?_drop, show 1 + (k - 1) = k by omega]
        simp [hk']
  · rintro ⟨p, hp, hw⟩
    unfold piecesF at hp
    by_cases c : row.length = 1
    · rw [if_pos c] at hp
      have e := List.mem_singleton.mp hp
      cases row with
      | nil => exact absurd rfl hn
      | cons a t =>
        subst e
        exact ⟨0, List.mem_range.mpr (by simp), (reach_within (h a (by simp)) (h a (by simp)) hs hr).mpr hw⟩
    · rw [if_neg c] at hp
      obtain ⟨i, hi⟩ := List.mem_iff_getElem?.mp hp
      obtain ⟨h1, h2⟩ := List.getElem?_zip_eq_some.mp hi
      rw [List.getElem?_drop] at h2
      obtain ⟨l1, e1⟩ := List.getElem?_eq_some_iff.mp h1
      obtain ⟨l2, e2⟩ := List.getElem?_eq_some_iff.mp h2
      refine ⟨1 + i, List.mem_range.mpr l2, ?_⟩
      have gk : row.getD (1 + i) ((0, 1), (0, 1)) = p.2 := by simp [List.getD_eq_getElem?_getD, l2, e2]
      have gk1 : row.getD (1 + i - 1) ((0, 1), (0, 1)) = p.1 := by
        rw [show 1 + i - 1 = i by omega]
        simp [List.getD_eq_getElem?_getD, l1, e1]
      rw [gk, gk1]
      exact (reach_within (by rw [← e1]; exact h _ (List.getElem_mem _)) (by rw [← e2]; exact h _ (List.getElem_mem _)) hs hr).mpr hw
end G3

set_option Elab.async false
set_option linter.all false
set_option maxRecDepth 100000
set_option maxHeartbeats 4000000
/-! k21: points of a row that lie bare of another one, in plain Lean -/
namespace G3
open PySem L2 PySem.W
/-- the share x lies in a span -/
def InS (o : Option (Rt × Rt)) (x : Rat) : Prop := ∃ r, o = some r ∧ rq r.1 ≤ x ∧ x ≤ rq r.2
/-- a span that is well made -/
def Nz (p : Rt) : Prop := p.1 = 0 → p = (0, 1)
structure SpOk (r : Rt × Rt) : Prop where
  f : 0 < r.1.2
  l : 0 < r.2.2
  fz : Nz r.1
  lz : Nz r.2
  le : rq r.1 ≤ rq r.2
theorem nz_nrm {a b : Int} (hb : b ≠ 0) : Nz (nrm a b) := fun h => nrm_zero hb h
theorem q01 : rq (0, 1) = 0 := (rq_zero (p := (0, 1)) (by decide)).mp rfl
theorem q11 : rq (1, 1) = 1 := by rw [rq_int]; exact Rat.intCast_one
theorem nz_pos {p : Rt} (h : 0 < p.2) (z : Nz p) : p = (0, 1) ↔ rq p = 0 := ⟨fun e => by rw [e]; exact q01, fun e => z ((rq_zero h).mpr e)⟩
def narrowF (sp : Rt × Rt) (s f lo hi : Rt) : Option (Rt × Rt) :=
  if f = (0, 1) then (if rcomp s lo < 0 ∨ rcomp hi s < 0 then none else some sp)
  else
    let e1 := rquo (rdif lo s) f
    let e2 := rquo (rdif hi s) f
    let u := if rcomp e2 e1 < 0 then e2 else e1
    let v := if rcomp e2 e1 < 0 then e1 else e2
    let a := if rcomp sp.1 u < 0 then u else sp.1
    let b := if rcomp v sp.2 < 0 then v else sp.2
    if rcomp b a < 0 then none else some (a, b)
theorem quo_eq {p f : Rt} (hp : 0 < p.2) (hf : 0 < f.2) (c : f.1 ≠ 0) : 0 < (rquo p f).2 ∧ Nz (rquo p f) ∧ rq (rquo p f) * rq f = rq p := by
  have mn : p.2 * f.1 ≠ 0 := fun z => by rcases Int.mul_eq_zero.mp z with z | z <;> omega
  have fz : rq f ≠ 0 := fun z => c ((rq_zero hf).mpr z)
  exact ⟨nrm_pos _ _ mn, nz_nrm mn, by rw [rq_quo hp hf c]; grind⟩
theorem ends_lin {f e1 e2 l h x : Rat} (hf : f ≠ 0) (h1 : e1 * f = l) (h2 : e2 * f = h) (hl : l ≤ h) : ((if e2 < e1 then e2 else e1) ≤ x ∧ x ≤ (if e2 < e1 then e1 else e2)) ↔ (l ≤ x * f ∧ x * f ≤ h) := by
  by_cases fp : 0 < f
  · have o : ¬ e2 < e1 := fun z => by
      have := Rat.mul_lt_mul_of_pos_right z fp
      grind
    rw [if_neg o, if_neg o]
    constructor
    · rintro ⟨a, b⟩
      have m1 := Rat.mul_le_mul_of_nonneg_right a (show (0 : Rat) ≤ f by grind)
      have m2 := Rat.mul_le_mul_of_nonneg_right b (show (0 : Rat) ≤ f by grind)
      constructor <;> grind
    · rintro ⟨a, b⟩
      constructor
      · refine Rat.not_lt.mp fun w => ?_
        have := Rat.mul_lt_mul_of_pos_right w fp
        grind
      · refine Rat.not_lt.mp fun w => ?_
        have := Rat.mul_lt_mul_of_pos_right w fp
        grind
  · have fn : 0 < -f := by grind
    have key : ∀ y z : Rat, y < z → z * f < y * f := fun y z w => by
      have := Rat.mul_lt_mul_of_pos_right w fn
      grind
    have key2 : ∀ y z : Rat, y ≤ z → z * f ≤ y * f := fun y z w => by
      have := Rat.mul_le_mul_of_nonneg_right w (show (0 : Rat) ≤ -f by grind)
      grind
    by_cases o : e2 < e1
    · rw [if_pos o, if_pos o]
      constructor
      · rintro ⟨a, b⟩
        have := key2 _ _ a
        have := key2 _ _ b
        constructor <;> grind
      · rintro ⟨a, b⟩
        constructor
        · refine Rat.not_lt.mp fun w => ?_
          have := key _ _ w
          grind
        · refine Rat.not_lt.mp fun w => ?_
          have := key _ _ w
          grind
    · rw [if_neg o, if_neg o]
      have o2 := key2 _ _ (Rat.not_lt.mp o)
      have e : l = h := by grind
      constructor
      · rintro ⟨a, b⟩
        have := key2 _ _ a
        have := key2 _ _ b
        constructor <;> grind
      · rintro ⟨a, b⟩
        constructor
        · refine Rat.not_lt.mp fun w => ?_
          have := key _ _ w
          grind
        · refine Rat.not_lt.mp fun w => ?_
          have := key _ _ w
          grind
theorem narrow_q {sp : Rt × Rt} {s f lo hi : Rt} (h : SpOk sp) (hs : 0 < s.2) (hf : 0 < f.2) (fz : Nz f) (hl : 0 < lo.2) (hh : 0 < hi.2) (hle : rq lo ≤ rq hi) :
    (∀ r, narrowF sp s f lo hi = some r → SpOk r ∧ rq sp.1 ≤ rq r.1 ∧ rq r.2 ≤ rq sp.2) ∧ ∀ x, InS (narrowF sp s f lo hi) x ↔ (rq sp.1 ≤ x ∧ x ≤ rq sp.2) ∧ rq lo ≤ rq s + x * rq f ∧ rq s + x * rq f ≤ rq hi := by
  unfold narrowF
  by_cases c : f = (0, 1)
  · rw [if_pos c]
    have z : rq f = 0 := by rw [c]; exact q01
    rw [z]
    by_cases d : rcomp s lo < 0 ∨ rcomp hi s < 0
    · rw [if_pos d, rq_lt hs hl, rq_lt hh hs] at *
      refine ⟨fun r e => (by cases e), fun x => ⟨fun ⟨r, e, _⟩ => (by cases e), fun ⟨_, h3, h4⟩ => by exfalso; rcases d with d | d <;> grind⟩⟩
    · rw [if_neg d]
      have d1 : ¬ rq s < rq lo := fun w => d (.inl ((rq_lt hs hl).mpr w))
      have d2 : ¬ rq hi < rq s := fun w => d (.inr ((rq_lt hh hs).mpr w))
      refine ⟨fun r e => by cases e; exact ⟨h, Rat.le_refl, Rat.le_refl⟩, fun x => ⟨fun ⟨r, e, h1, h2⟩ => by cases e; refine ⟨⟨h1, h2⟩, ?_, ?_⟩ <;> grind, fun ⟨h1, _⟩ => ⟨_, rfl, h1⟩⟩⟩
  · rw [if_neg c]
    have c1 : f.1 ≠ 0 := fun z => c (fz z)
    have fq : rq f ≠ 0 := fun z => c1 ((rq_zero hf).mpr z)
    have d1 : 0 < (rdif lo s).2 := nrm_pos _ _ (mul_ne hl hs)
    have d2 : 0 < (rdif hi s).2 := nrm_pos _ _ (mul_ne hh hs)
    obtain ⟨p1, z1, q1⟩ := quo_eq d1 hf c1
    obtain ⟨p2, z2, q2⟩ := quo_eq d2 hf c1
    rw [rq_dif hl hs] at q1
    rw [rq_dif hh hs] at q2
    dsimp only
    generalize rquo (rdif lo s) f = e1 at p1 z1 q1
    generalize rquo (rdif hi s) f = e2 at p2 z2 q2
    have lin := fun x => ends_lin (x := x) fq q1 q2 (by grind)
    have key : ∃ u v : Rt, u = (if rcomp e2 e1 < 0 then e2 else e1) ∧ v = (if rcomp e2 e1 < 0 then e1 else e2) ∧ 0 < u.2 ∧ 0 < v.2 ∧ Nz u ∧ Nz v ∧ ∀ x, (rq u ≤ x ∧ x ≤ rq v) ↔ (rq lo - rq s ≤ x * rq f ∧ x * rq f ≤ rq hi - rq s) := by
      by_cases n : rcomp e2 e1 < 0
      · have n2 := (rq_lt p2 p1).mp n
        refine ⟨e2, e1, by rw [if_pos n], by rw [if_pos n], p2, p1, z2, z1, fun x => ?_⟩
        have := lin x
        rwa [if_pos n2, if_pos n2] at this
      · have n2 : ¬ rq e2 < rq e1 := fun w => n ((rq_lt p2 p1).mpr w)
        refine ⟨e1, e2, by rw [if_neg n], by rw [if_neg n], p1, p2, z1, z2, fun x => ?_⟩
        have := lin x
        rwa [if_neg n2, if_neg n2] at this
    obtain ⟨u, v, eu, ev, hu, hv, uz, vz, hx⟩ := key
    rw [← eu, ← ev]
    have hF : 0 < (if rcomp sp.1 u < 0 then u else sp.1).2 ∧ Nz (if rcomp sp.1 u < 0 then u else sp.1) ∧ rq sp.1 ≤ rq (if rcomp sp.1 u < 0 then u else sp.1) ∧ ∀ x, rq (if rcomp sp.1 u < 0 then u else sp.1) ≤ x ↔ rq sp.1 ≤ x ∧ rq u ≤ x := by
      split
      · rename_i w
        have w2 := (rq_lt h.f hu).mp w
        exact ⟨hu, uz, by grind, fun x => ⟨fun y => ⟨by grind, y⟩, fun y => y.2⟩⟩
      · rename_i w
        have w2 : ¬ rq sp.1 < rq u := fun z => w ((rq_lt h.f hu).mpr z)
        exact ⟨h.f, h.fz, Rat.le_refl, fun x => ⟨fun y => ⟨y, by grind⟩, fun y => y.1⟩⟩
    have hL : 0 < (if rcomp v sp.2 < 0 then v else sp.2).2 ∧ Nz (if rcomp v sp.2 < 0 then v else sp.2) ∧ rq (if rcomp v sp.2 < 0 then v else sp.2) ≤ rq sp.2 ∧ ∀ x, x ≤ rq (if rcomp v sp.2 < 0 then v else sp.2) ↔ x ≤ rq sp.2 ∧ x ≤ rq v := by
      split
      · rename_i w
        have w2 := (rq_lt hv h.l).mp w
        exact ⟨hv, vz, by grind, fun x => ⟨fun y => ⟨by grind, y⟩, fun y => y.2⟩⟩
      · rename_i w
        have w2 : ¬ rq v < rq sp.2 := fun z => w ((rq_lt hv h.l).mpr z)
        exact ⟨h.l, h.lz, Rat.le_refl, fun x => ⟨fun y => ⟨y, by grind⟩, fun y => y.1⟩⟩
    generalize (if rcomp sp.1 u < 0 then u else sp.1) = a at hF
    generalize (if rcomp v sp.2 < 0 then v else sp.2) = b at hL
    obtain ⟨a1, a2, a3, a4⟩ := hF
    obtain ⟨b1, b2, b3, b4⟩ := hL
    have all : ∀ x, (rq a ≤ x ∧ x ≤ rq b) ↔ (rq sp.1 ≤ x ∧ x ≤ rq sp.2) ∧ rq lo ≤ rq s + x * rq f ∧ rq s + x * rq f ≤ rq hi := fun x => by
      have k1 := a4 x
      have k2 := b4 x
      have k3 := hx x
      generalize x * rq f = y at k3
      constructor
      · rintro ⟨y1, y2⟩
        obtain ⟨m1, m2⟩ := k3.mp ⟨(k1.mp y1).2, (k2.mp y2).2⟩
        exact ⟨⟨(k1.mp y1).1, (k2.mp y2).1⟩, by grind, by grind⟩
      · rintro ⟨⟨y1, y2⟩, y3, y4⟩
        obtain ⟨m1, m2⟩ := k3.mpr ⟨by grind, by grind⟩
        exact ⟨k1.mpr ⟨y1, m1⟩, k2.mpr ⟨y2, m2⟩⟩
    by_cases w : rcomp b a < 0
    · rw [if_pos w]
      have w2 := (rq_lt b1 a1).mp w
      refine ⟨fun r e => (by cases e), fun x => ⟨fun ⟨r, e, _⟩ => (by cases e), fun y => ?_⟩⟩
      have := (all x).mpr y
      exfalso
      grind
    · rw [if_neg w]
      have w2 : ¬ rq b < rq a := fun z => w ((rq_lt b1 a1).mpr z)
      refine ⟨fun r e => by cases e; exact ⟨⟨a1, b1, a2, b2, Rat.not_lt.mp w2⟩, a3, b3⟩, fun x => ⟨fun ⟨r, e, y⟩ => by cases e; exact (all x).mp y, fun y => ⟨_, rfl, (all x).mpr y⟩⟩⟩
end G3

set_option Elab.async false
set_option linter.all false
set_option maxRecDepth 100000
set_option maxHeartbeats 4000000
/-! k21: the shares of a piece that lie near another one -/
namespace G3
open PySem L2 PySem.W
/-- u times X comes within B of p -/
def Ab (x B : Rat) : Prop := x ≤ B ∧ -x ≤ B
theorem one_dim {Y q B : Rat} (hY : 0 < Y) (hB : 0 ≤ B) (h1 : -B ≤ q) (h2 : q ≤ Y + B) : ∃ u, 0 ≤ u ∧ u ≤ 1 ∧ Ab (u * Y - q) B := by
  by_cases c : q ≤ B
  · refine ⟨0, Rat.le_refl, by grind, ?_, ?_⟩ <;> grind
  · have e : (q - B) / Y * Y = q - B := by grind
    refine ⟨(q - B) / Y, ?_, ?_, ?_, ?_⟩
    · refine Rat.not_lt.mp fun w => ?_
      have := Rat.mul_lt_mul_of_pos_right w hY
      grind
    · refine Rat.not_lt.mp fun w => ?_
      have := Rat.mul_lt_mul_of_pos_right w hY
      grind
    · rw [e]; grind
    · rw [e]; grind
theorem two_dim {X Y p q B : Rat} (hX : 0 < X) (hY : 0 < Y) (hB : 0 ≤ B) (p1 : -B ≤ p) (p2 : p ≤ X + B) (q1 : -B ≤ q) (q2 : q ≤ Y + B) (c1 : X * q - Y * p ≤ B * (X + Y)) (c2 : -(B * (X + Y)) ≤ X * q - Y * p)
    (hm : (q - B) * X ≤ (p - B) * Y) : ∃ u, 0 ≤ u ∧ u ≤ 1 ∧ Ab (u * X - p) B ∧ Ab (u * Y - q) B := by
  by_cases c : p ≤ B
  · have qb : q ≤ B := by
      refine Rat.not_lt.mp fun w => ?_
      have m1 := Rat.mul_lt_mul_of_pos_right (show 0 < q - B by grind) hX
      have m2 := Rat.mul_le_mul_of_nonneg_right (show p - B ≤ 0 by grind) (show (0 : Rat) ≤ Y by grind)
      grind
    refine ⟨0, Rat.le_refl, by grind, ⟨?_, ?_⟩, ?_, ?_⟩ <;> grind
  · have e : (p - B) / X * X = p - B := by grind
    generalize (p - B) / X = u at e
    refine ⟨u, ?_, ?_, ⟨?_, ?_⟩, ?_, ?_⟩
    · refine Rat.not_lt.mp fun w => ?_
      have := Rat.mul_lt_mul_of_pos_right w hX
      grind
    · refine Rat.not_lt.mp fun w => ?_
      have := Rat.mul_lt_mul_of_pos_right w hX
      grind
    · rw [e]; grind
    · rw [e]; grind
    · refine Rat.not_lt.mp fun w => ?_
      have := Rat.mul_lt_mul_of_pos_right w hX
      have e2 : u * Y * X = (p - B) * Y := by rw [← e]; grind
      grind
    · refine Rat.not_lt.mp fun w => ?_
      have := Rat.mul_lt_mul_of_pos_right w hX
      have e2 : u * Y * X = (p - B) * Y := by rw [← e]; grind
      grind
theorem pos_dim {X Y p q B : Rat} (hX : 0 ≤ X) (hY : 0 ≤ Y) (hB : 0 ≤ B) (p1 : -B ≤ p) (p2 : p ≤ X + B) (q1 : -B ≤ q) (q2 : q ≤ Y + B) (c1 : X * q - Y * p ≤ B * (X + Y)) (c2 : -(B * (X + Y)) ≤ X * q - Y * p) :
    ∃ u, 0 ≤ u ∧ u ≤ 1 ∧ Ab (u * X - p) B ∧ Ab (u * Y - q) B := by
  by_cases x0 : X = 0
  · subst x0
    by_cases y0 : Y = 0
    · subst y0
      refine ⟨0, Rat.le_refl, by grind, ⟨?_, ?_⟩, ?_, ?_⟩ <;> grind
    · obtain ⟨u, u0, u1, hu⟩ := one_dim (show 0 < Y by grind) hB q1 q2
      refine ⟨u, u0, u1, ⟨?_, ?_⟩, hu⟩ <;> grind
  · by_cases y0 : Y = 0
    · subst y0
      obtain ⟨u, u0, u1, hu⟩ := one_dim (show 0 < X by grind) hB p1 p2
      refine ⟨u, u0, u1, hu, ⟨?_, ?_⟩⟩ <;> grind
    · have hX' : 0 < X := by grind
      have hY' : 0 < Y := by grind
      by_cases m : (q - B) * X ≤ (p - B) * Y
      · exact two_dim hX' hY' hB p1 p2 q1 q2 c1 c2 m
      · obtain ⟨u, u0, u1, h1, h2⟩ := two_dim (X := Y) (Y := X) (p := q) (q := p) hY' hX' hB q1 q2 p1 p2 (by grind) (by grind) (by grind)
        exact ⟨u, u0, u1, h2, h1⟩
def absQ (x : Rat) : Rat := if x < 0 then -x else x
/-- the six-cornered room about a piece -/
theorem hexa {X Y p q B : Rat} (hB : 0 ≤ B) : (∃ u, 0 ≤ u ∧ u ≤ 1 ∧ Ab (u * X - p) B ∧ Ab (u * Y - q) B) ↔
    ((if X < 0 then X else 0) - B ≤ p ∧ p ≤ (if X < 0 then 0 else X) + B) ∧ ((if Y < 0 then Y else 0) - B ≤ q ∧ q ≤ (if Y < 0 then 0 else Y) + B) ∧ (-(B * (absQ X + absQ Y)) ≤ X * q - Y * p ∧ X * q - Y * p ≤ B * (absQ X + absQ Y)) := by
  constructor
  · rintro ⟨u, u0, u1, ⟨a1, a2⟩, b1, b2⟩
    have side : ∀ Z r : Rat, u * Z - r ≤ B → -(u * Z - r) ≤ B → (if Z < 0 then Z else 0) - B ≤ r ∧ r ≤ (if Z < 0 then 0 else Z) + B := fun Z r h1 h2 => by
      by_cases c : Z < 0
      · rw [if_pos c, if_pos c]
        have m1 := Rat.mul_le_mul_of_nonneg_right u0 (show (0 : Rat) ≤ -Z by grind)
        have m2 := Rat.mul_le_mul_of_nonneg_right u1 (show (0 : Rat) ≤ -Z by grind)
        constructor <;> grind
      · rw [if_neg c, if_neg c]
        have m1 := Rat.mul_le_mul_of_nonneg_right u0 (show (0 : Rat) ≤ Z by grind)
        have m2 := Rat.mul_le_mul_of_nonneg_right u1 (show (0 : Rat) ≤ Z by grind)
        constructor <;> grind
    refine ⟨side X p a1 a2, side Y q b1 b2, ?_⟩
    have prod : ∀ Z e : Rat, e ≤ B → -e ≤ B → Z * e ≤ B * absQ Z ∧ -(Z * e) ≤ B * absQ Z := fun Z e h1 h2 => by
      unfold absQ
      by_cases c : Z < 0
      · rw [if_pos c]
        have m1 := Rat.mul_le_mul_of_nonneg_right h1 (show (0 : Rat) ≤ -Z by grind)
        have m2 := Rat.mul_le_mul_of_nonneg_right h2 (show (0 : Rat) ≤ -Z by grind)
        constructor <;> grind
      · rw [if_neg c]
        have m1 := Rat.mul_le_mul_of_nonneg_right h1 (show (0 : Rat) ≤ Z by grind)
        have m2 := Rat.mul_le_mul_of_nonneg_right h2 (show (0 : Rat) ≤ Z by grind)
        constructor <;> grind
    have r1 := prod X (u * Y - q) b1 b2
    have r2 := prod Y (u * X - p) a1 a2
    have e : X * q - Y * p = Y * (u * X - p) - X * (u * Y - q) := by grind
    rw [e]
    generalize X * (u * Y - q) = s at r1
    generalize Y * (u * X - p) = t at r2
    constructor <;> grind
  · rintro ⟨⟨p1, p2⟩, ⟨q1, q2⟩, c1, c2⟩
    unfold absQ at c1 c2
    by_cases x0 : X < 0 <;> by_cases y0 : Y < 0
    · simp only [x0, y0, if_true] at p1 p2 q1 q2 c1 c2
      obtain ⟨u, u0, u1, ⟨h1, h2⟩, h3, h4⟩ := pos_dim (X := -X) (Y := -Y) (p := -p) (q := -q) (B := B) (by grind) (by grind) hB (by grind) (by grind) (by grind) (by grind) (by grind) (by grind)
      refine ⟨u, u0, u1, ⟨?_, ?_⟩, ?_, ?_⟩ <;> grind
    · simp only [x0, y0, if_true, if_false] at p1 p2 q1 q2 c1 c2
      obtain ⟨u, u0, u1, ⟨h1, h2⟩, h3, h4⟩ := pos_dim (X := -X) (Y := Y) (p := -p) (q := q) (B := B) (by grind) (by grind) hB (by grind) (by grind) (by grind) (by grind) (by grind) (by grind)
      refine ⟨u, u0, u1, ⟨?_, ?_⟩, ?_, ?_⟩ <;> grind
    · simp only [x0, y0, if_true, if_false] at p1 p2 q1 q2 c1 c2
      obtain ⟨u, u0, u1, ⟨h1, h2⟩, h3, h4⟩ := pos_dim (X := X) (Y := -Y) (p := p) (q := -q) (B := B) (by grind) (by grind) hB (by grind) (by grind) (by grind) (by grind) (by grind) (by grind)
      refine ⟨u, u0, u1, ⟨?_, ?_⟩, ?_, ?_⟩ <;> grind
    · simp only [x0, y0, if_false] at p1 p2 q1 q2 c1 c2
      exact pos_dim (by grind) (by grind) hB (by grind) (by grind) (by grind) (by grind) c2 c1
/-! what the program reckons -/
def sort2 (a b : Rt) : Rt × Rt := if rcomp b a < 0 then (b, a) else (a, b)
def leanF (x y : Rt) (c s : Spt) : Rt := rdif (rprod x (rdif s.2 c.2)) (rprod y (rdif s.1 c.1))
def nearWay (k : Bool) (a b c d : Spt) (sl : Rt) (sp : Rt × Rt) : Option (Rt × Rt) := narrowF sp (pk a k) (rdif (pk b k) (pk a k)) (rdif (sort2 (pk c k) (pk d k)).1 sl) (rsum (sort2 (pk c k) (pk d k)).2 sl)
def roomF (c d : Spt) (sl : Rt) : Rt := rprod sl (rsum (rabs (rdif d.1 c.1)) (rabs (rdif d.2 c.2)))
def nearLean (a b c d : Spt) (sl : Rt) (sp : Rt × Rt) : Option (Rt × Rt) :=
  narrowF sp (leanF (rdif d.1 c.1) (rdif d.2 c.2) c a) (rdif (leanF (rdif d.1 c.1) (rdif d.2 c.2) c b) (leanF (rdif d.1 c.1) (rdif d.2 c.2) c a)) (rdif (0, 1) (roomF c d sl)) (roomF c d sl)
def nearF (a b c d : Spt) (sl : Rt) : Option (Rt × Rt) := ((nearWay false a b c d sl ((0, 1), (1, 1))).bind (nearWay true a b c d sl)).bind (nearLean a b c d sl)
/-- a point comes within B of a piece -/
def WQ (px py : Rat) (c d : Spt) (B : Rat) : Prop := ∃ u, 0 ≤ u ∧ u ≤ 1 ∧ FB (rq c.1 - px + u * (rq d.1 - rq c.1)) (rq c.2 - py + u * (rq d.2 - rq c.2)) B
theorem within_q {s c d : Spt} {B : Rat} : Within s c d B ↔ WQ (rq s.1) (rq s.2) c d B := Iff.rfl
theorem sort2_q {a b : Rt} (ha : 0 < a.2) (hb : 0 < b.2) : 0 < (sort2 a b).1.2 ∧ 0 < (sort2 a b).2.2 ∧ rq (sort2 a b).1 = (if rq b - rq a < 0 then rq b - rq a else 0) + rq a ∧ rq (sort2 a b).2 = (if rq b - rq a < 0 then 0 else rq b - rq a) + rq a := by
  unfold sort2
  by_cases c : rcomp b a < 0
  · have := (rq_lt hb ha).mp c
    rw [if_pos c, if_pos (by grind), if_pos (by grind)]
    refine ⟨hb, ha, by grind, by grind⟩
  · have : ¬ rq b < rq a := fun w => c ((rq_lt hb ha).mpr w)
    rw [if_neg c, if_neg (by grind), if_neg (by grind)]
    refine ⟨ha, hb, by grind, by grind⟩
theorem lean_q {x y : Rt} {c s : Spt} (hx : 0 < x.2) (hy : 0 < y.2) (hc : SP c) (hs : SP s) : 0 < (leanF x y c s).2 ∧ rq (leanF x y c s) = rq x * (rq s.2 - rq c.2) - rq y * (rq s.1 - rq c.1) := by
  have d1 : 0 < (rdif s.2 c.2).2 := nrm_pos _ _ (mul_ne hs.y hc.y)
  have d2 : 0 < (rdif s.1 c.1).2 := nrm_pos _ _ (mul_ne hs.x hc.x)
  have p1 : 0 < (rprod x (rdif s.2 c.2)).2 := nrm_pos _ _ (mul_ne hx d1)
  have p2 : 0 < (rprod y (rdif s.1 c.1)).2 := nrm_pos _ _ (mul_ne hy d2)
  refine ⟨nrm_pos _ _ (mul_ne p1 p2), ?_⟩
  unfold leanF
  rw [rq_dif p1 p2, rq_prod hx d1, rq_prod hy d2, rq_dif hs.y hc.y, rq_dif hs.x hc.x]
theorem rabs_q {p : Rt} (h : 0 < p.2) : 0 < (rabs p).2 ∧ rq (rabs p) = absQ (rq p) := ⟨h, rq_abs h⟩
theorem sp01 : SpOk ((0, 1), (1, 1)) := ⟨by decide, by decide, fun _ => rfl, (by intro h; cases h), by rw [q01, q11]; grind⟩
theorem near_way {k : Bool} {a b c d : Spt} {sl : Rt} {sp : Rt × Rt} (h : SpOk sp) (ha : SP a) (hb : SP b) (hc : SP c) (hd : SP d) (hs : 0 < sl.2) (h0 : 0 ≤ rq sl) :
    (∀ r, nearWay k a b c d sl sp = some r → SpOk r ∧ rq sp.1 ≤ rq r.1 ∧ rq r.2 ≤ rq sp.2) ∧ ∀ x, InS (nearWay k a b c d sl sp) x ↔ (rq sp.1 ≤ x ∧ x ≤ rq sp.2) ∧
      (if rq (pk d k) - rq (pk c k) < 0 then rq (pk d k) - rq (pk c k) else 0) - rq sl ≤ rq (pk a k) + x * (rq (pk b k) - rq (pk a k)) - rq (pk c k) ∧
      rq (pk a k) + x * (rq (pk b k) - rq (pk a k)) - rq (pk c k) ≤ (if rq (pk d k) - rq (pk c k) < 0 then 0 else rq (pk d k) - rq (pk c k)) + rq sl := by
  obtain ⟨s1, s2, e1, e2⟩ := sort2_q (hc.pk k) (hd.pk k)
  have hm : 0 < (rdif (pk b k) (pk a k)).2 := nrm_pos _ _ (mul_ne (hb.pk k) (ha.pk k))
  have le : rq (sort2 (pk c k) (pk d k)).1 ≤ rq (sort2 (pk c k) (pk d k)).2 := by
    rw [e1, e2]
    split <;> grind
  have := narrow_q (sp := sp) (s := pk a k) (f := rdif (pk b k) (pk a k)) (lo := rdif (sort2 (pk c k) (pk d k)).1 sl) (hi := rsum (sort2 (pk c k) (pk d k)).2 sl) h (ha.pk k) hm (nz_nrm (mul_ne (hb.pk k) (ha.pk k)))
    (nrm_pos _ _ (mul_ne s1 hs)) (nrm_pos _ _ (mul_ne s2 hs)) (by rw [rq_dif s1 hs, rq_sum s2 hs]; grind)
  refine ⟨this.1, fun x => (this.2 x).trans ?_⟩
  rw [rq_dif s1 hs, rq_sum s2 hs, e1, e2, rq_dif (hb.pk k) (ha.pk k)]
  generalize x * (rq (pk b k) - rq (pk a k)) = y
  constructor <;> (rintro ⟨h1, h2, h3⟩; refine ⟨h1, ?_, ?_⟩ <;> grind)
theorem near_is {a b c d : Spt} {sl : Rt} (ha : SP a) (hb : SP b) (hc : SP c) (hd : SP d) (hs : 0 < sl.2) (h0 : 0 ≤ rq sl) :
    (∀ r, nearF a b c d sl = some r → SpOk r ∧ 0 ≤ rq r.1 ∧ rq r.2 ≤ 1) ∧ ∀ t, InS (nearF a b c d sl) t ↔ (0 ≤ t ∧ t ≤ 1) ∧ WQ (rq a.1 + t * (rq b.1 - rq a.1)) (rq a.2 + t * (rq b.2 - rq a.2)) c d (rq sl) := by
  have x1 : 0 < (rdif d.1 c.1).2 := nrm_pos _ _ (mul_ne hd.x hc.x)
  have y1 : 0 < (rdif d.2 c.2).2 := nrm_pos _ _ (mul_ne hd.y hc.y)
  obtain ⟨l1, e1⟩ := lean_q x1 y1 hc ha
  obtain ⟨l2, e2⟩ := lean_q x1 y1 hc hb
  have rp : 0 < (rsum (rabs (rdif d.1 c.1)) (rabs (rdif d.2 c.2))).2 := nrm_pos _ _ (mul_ne (rabs_q x1).1 (rabs_q y1).1)
  have rm : 0 < (roomF c d sl).2 := nrm_pos _ _ (mul_ne hs rp)
  have re : rq (roomF c d sl) = rq sl * (absQ (rq d.1 - rq c.1) + absQ (rq d.2 - rq c.2)) := by
    unfold roomF
    rw [rq_prod hs rp, rq_sum (rabs_q x1).1 (rabs_q y1).1, (rabs_q x1).2, (rabs_q y1).2, rq_dif hd.x hc.x, rq_dif hd.y hc.y]
  have rn : 0 ≤ rq (roomF c d sl) := by
    rw [re]
    have : 0 ≤ absQ (rq d.1 - rq c.1) + absQ (rq d.2 - rq c.2) := by
      unfold absQ
      split <;> split <;> grind
    exact Rat.mul_nonneg h0 this
  have leanN : ∀ sp, SpOk sp → (∀ r, nearLean a b c d sl sp = some r → SpOk r ∧ rq sp.1 ≤ rq r.1 ∧ rq r.2 ≤ rq sp.2) ∧ ∀ x, InS (nearLean a b c d sl sp) x ↔ (rq sp.1 ≤ x ∧ x ≤ rq sp.2) ∧
      -(rq sl * (absQ (rq d.1 - rq c.1) + absQ (rq d.2 - rq c.2))) ≤ (rq d.1 - rq c.1) * (rq a.2 + x * (rq b.2 - rq a.2) - rq c.2) - (rq d.2 - rq c.2) * (rq a.1 + x * (rq b.1 - rq a.1) - rq c.1) ∧
      (rq d.1 - rq c.1) * (rq a.2 + x * (rq b.2 - rq a.2) - rq c.2) - (rq d.2 - rq c.2) * (rq a.1 + x * (rq b.1 - rq a.1) - rq c.1) ≤ rq sl * (absQ (rq d.1 - rq c.1) + absQ (rq d.2 - rq c.2)) := fun sp hsp => by
    have := narrow_q (sp := sp) (s := leanF (rdif d.1 c.1) (rdif d.2 c.2) c a) (f := rdif (leanF (rdif d.1 c.1) (rdif d.2 c.2) c b) (leanF (rdif d.1 c.1) (rdif d.2 c.2) c a)) (lo := rdif (0, 1) (roomF c d sl)) (hi := roomF c d sl) hsp l1
      (nrm_pos _ _ (mul_ne l2 l1)) (nz_nrm (mul_ne l2 l1)) (nrm_pos _ _ (mul_ne (by decide) rm)) rm (by rw [rq_dif (by decide) rm, q01]; grind)
    refine ⟨this.1, fun x => (this.2 x).trans ?_⟩
    rw [rq_dif (by decide) rm, q01, re, rq_dif l2 l1, e1, e2, rq_dif hd.x hc.x, rq_dif hd.y hc.y]
    have ee : (rq d.1 - rq c.1) * (rq a.2 + x * (rq b.2 - rq a.2) - rq c.2) - (rq d.2 - rq c.2) * (rq a.1 + x * (rq b.1 - rq a.1) - rq c.1) = (rq d.1 - rq c.1) * (rq a.2 - rq c.2) - (rq d.2 - rq c.2) * (rq a.1 - rq c.1) +
        x * ((rq d.1 - rq c.1) * (rq b.2 - rq c.2) - (rq d.2 - rq c.2) * (rq b.1 - rq c.1) - ((rq d.1 - rq c.1) * (rq a.2 - rq c.2) - (rq d.2 - rq c.2) * (rq a.1 - rq c.1))) := by grind
    rw [ee, show (0 : Rat) - rq sl * (absQ (rq d.1 - rq c.1) + absQ (rq d.2 - rq c.2)) = -(rq sl * (absQ (rq d.1 - rq c.1) + absQ (rq d.2 - rq c.2))) by grind]
  have wq : ∀ t, WQ (rq a.1 + t * (rq b.1 - rq a.1)) (rq a.2 + t * (rq b.2 - rq a.2)) c d (rq sl) ↔ ∃ u, 0 ≤ u ∧ u ≤ 1 ∧ Ab (u * (rq d.1 - rq c.1) - (rq a.1 + t * (rq b.1 - rq a.1) - rq c.1)) (rq sl) ∧ Ab (u * (rq d.2 - rq c.2) - (rq a.2 + t * (rq b.2 - rq a.2) - rq c.2)) (rq sl) := fun t => by
    unfold WQ FB Ab
    constructor
    · rintro ⟨u, u0, u1, h1, h2, h3, h4⟩
      refine ⟨u, u0, u1, ⟨?_, ?_⟩, ?_, ?_⟩ <;> grind
    · rintro ⟨u, u0, u1, ⟨h1, h2⟩, h3, h4⟩
      refine ⟨u, u0, u1, ?_, ?_, ?_, ?_⟩ <;> grind
  unfold nearF
  have W1 := near_way (k := false) sp01 ha hb hc hd hs h0
  have none_in : ∀ x, ¬ InS none x := fun x ⟨_, e, _⟩ => by cases e
  cases hm : nearWay false a b c d sl ((0, 1), (1, 1)) with
  | none =>
    rw [hm] at W1
    refine ⟨fun r e => (by cases e), fun t => ⟨fun z => absurd z (none_in t), fun ⟨⟨t0, t1⟩, z⟩ => ?_⟩⟩
    obtain ⟨z1, z2, z3⟩ := (hexa h0).mp ((wq t).mp z)
    exact absurd ((W1.2 t).mpr ⟨⟨by rw [q01]; exact t0, by rw [q11]; exact t1⟩, z1⟩) (none_in t)
  | some m =>
    rw [hm] at W1
    obtain ⟨m0, m1, m2⟩ := W1.1 m rfl
    have W2 := near_way (k := true) m0 ha hb hc hd hs h0
    have in1 : ∀ t, (rq m.1 ≤ t ∧ t ≤ rq m.2) ↔ InS (some m) t := fun t => ⟨fun z => ⟨m, rfl, z⟩, fun ⟨_, e, z⟩ => by cases e; exact z⟩
    show (∀ r, ((nearWay true a b c d sl m).bind (nearLean a b c d sl)) = some r → _) ∧ ∀ t, InS ((nearWay true a b c d sl m).bind (nearLean a b c d sl)) t ↔ _
    cases hn : nearWay true a b c d sl m with
    | none =>
      rw [hn] at W2
      refine ⟨fun r e => (by cases e), fun t => ⟨fun z => absurd z (none_in t), fun ⟨⟨t0, t1⟩, z⟩ => ?_⟩⟩
      obtain ⟨z1, z2, z3⟩ := (hexa h0).mp ((wq t).mp z)
      exact absurd ((W2.2 t).mpr ⟨(in1 t).mpr ((W1.2 t).mpr ⟨⟨by rw [q01]; exact t0, by rw [q11]; exact t1⟩, z1⟩), z2⟩) (none_in t)
    | some n =>
      rw [hn] at W2
      obtain ⟨n0, n1, n2⟩ := W2.1 n rfl
      have in2 : ∀ t, (rq n.1 ≤ t ∧ t ≤ rq n.2) ↔ InS (some n) t := fun t => ⟨fun z => ⟨n, rfl, z⟩, fun ⟨_, e, z⟩ => by cases e; exact z⟩
      have W3 := leanN n n0
      show (∀ r, nearLean a b c d sl n = some r → _) ∧ ∀ t, InS (nearLean a b c d sl n) t ↔ _
      refine ⟨fun r e => ?_, fun t => ?_⟩
      · obtain ⟨r0, r1, r2⟩ := W3.1 r e
        rw [q01] at m1
        rw [q11] at m2
        exact ⟨r0, by grind, by grind⟩
      · constructor
        · intro z
          obtain ⟨k1, k2⟩ := (W3.2 t).mp z
          obtain ⟨k3, k4⟩ := (W2.2 t).mp ((in2 t).mp k1)
          obtain ⟨k5, k6⟩ := (W1.2 t).mp ((in1 t).mp k3)
          rw [q01, q11] at k5
          exact ⟨k5, (wq t).mpr ((hexa h0).mpr ⟨k6, k4, k2⟩)⟩
        · rintro ⟨⟨t0, t1⟩, z⟩
          obtain ⟨z1, z2, z3⟩ := (hexa h0).mp ((wq t).mp z)
          exact (W3.2 t).mpr ⟨(in2 t).mpr ((W2.2 t).mpr ⟨(in1 t).mpr ((W1.2 t).mpr ⟨⟨by rw [q01]; exact t0, by rw [q11]; exact t1⟩, z1⟩), z2⟩), z3⟩
end G3

set_option Elab.async false
set_option linter.all false
set_option maxRecDepth 100000
set_option maxHeartbeats 4000000
/-! k21: the gap in spans; bare points -/
namespace G3
open PySem L2 PySem.W
abbrev Sp2 := Rt × Rt
/-- one more span among those in order -/
def insS (l : List Sp2) (s : Sp2) : List Sp2 := l.take (l.filter fun o => !decide (rcomp s.1 o.1 < 0)).length ++ [s] ++ l.drop (l.filter fun o => !decide (rcomp s.1 o.1 < 0)).length
def ordS (l : List Sp2) : List Sp2 := l.foldl insS []
def gapGo : List Sp2 → Option Rt → Option Rt
  | [], none => some (0, 1)
  | [], some h => if rcomp h (1, 1) < 0 then some (1, 1) else none
  | s :: r, none => if s.1 = (0, 1) then gapGo r (some s.2) else some (0, 1)
  | s :: r, some h => if rcomp h s.1 < 0 then some (rprod (1, 2) (rsum h s.1)) else gapGo r (some (if rcomp h s.2 < 0 then s.2 else h))
def gapF (l : List Sp2) : Option Rt := gapGo (ordS l) none
def bareF (ones others : List Spt) (sl : Rt) : Option Spt := (piecesF ones).findSome? fun p => (gapF ((piecesF others).filterMap fun q => nearF p.1 p.2 q.1 q.2 sl)).map fun g => onWay p.1 p.2 g
/-! in order -/
theorem insS_perm (l : List Sp2) (s : Sp2) : (insS l s).Perm (s :: l) := by
  unfold insS
  have : (l.take (l.filter fun o => !decide (rcomp s.1 o.1 < 0)).length ++ [s] ++ l.drop (l.filter fun o => !decide (rcomp s.1 o.1 < 0)).length).Perm (s :: (l.take (l.filter fun o => !decide (rcomp s.1 o.1 < 0)).length ++ l.drop (l.filter fun o => !decide (rcomp s.1 o.1 < 0)).length)) := by
    rw [List.append_assoc]
    exact List.perm_middle
  rwa [List.take_append_drop] at this
theorem foldS_perm : ∀ (l acc : List Sp2), (l.foldl insS acc).Perm (acc ++ l)
  | [], acc => by simp
  | s :: l, acc => by
    rw [List.foldl_cons]
    refine (foldS_perm l (insS acc s)).trans ?_
    refine ((insS_perm acc s).append_right l).trans ?_
    exact (List.perm_middle (l₁ := acc) (a := s) (l₂ := l)).symm
theorem ordS_perm (l : List Sp2) : (ordS l).Perm l := by
  have := foldS_perm l []
  simpa [ordS] using this
def Srt (l : List Sp2) : Prop := l.Pairwise fun a b => rq a.1 ≤ rq b.1
theorem filt_pre {s : Sp2} (hs : 0 < s.1.2) : ∀ {l : List Sp2}, (∀ o ∈ l, 0 < o.1.2) → Srt l → (∀ o ∈ l.take (l.filter fun o => !decide (rcomp s.1 o.1 < 0)).length, rq o.1 ≤ rq s.1) ∧ ∀ o ∈ l.drop (l.filter fun o => !decide (rcomp s.1 o.1 < 0)).length, rq s.1 ≤ rq o.1
  | [], _, _ => by simp
  | a :: l, hp, hl => by
    have ha := hp a (by simp)
    obtain ⟨h1, h2⟩ := List.pairwise_cons.mp hl
    by_cases c : rcomp s.1 a.1 < 0
    · have c2 := (rq_lt hs ha).mp c
      have nil : l.filter (fun o => !decide (rcomp s.1 o.1 < 0)) = [] := by
        refine List.filter_eq_nil_iff.mpr fun o ho => ?_
        have := h1 o ho
        have : rcomp s.1 o.1 < 0 := (rq_lt hs (hp o (by simp [ho]))).mpr (by grind)
        simp [this]
      rw [List.filter_cons_of_neg (by simp [c]), nil]
      refine ⟨by simp, fun o ho => ?_⟩
      rw [List.length_nil, List.drop_zero] at ho
      rcases List.mem_cons.mp ho with rfl | ho
      · grind
      · have := h1 o ho; grind
    · have c2 : ¬ rq s.1 < rq a.1 := fun w => c ((rq_lt hs ha).mpr w)
      obtain ⟨i1, i2⟩ := filt_pre hs (l := l) (fun o ho => hp o (by simp [ho])) h2
      rw [List.filter_cons_of_pos (by simp [c]), List.length_cons, List.take_succ_cons, List.drop_succ_cons]
      refine ⟨fun o ho => ?_, i2⟩
      rcases List.mem_cons.mp ho with rfl | ho
      · grind
      · exact i1 o ho
theorem insS_srt {l : List Sp2} {s : Sp2} (hs : 0 < s.1.2) (hp : ∀ o ∈ l, 0 < o.1.2) (h : Srt l) : Srt (insS l s) := by
  obtain ⟨i1, i2⟩ := filt_pre hs hp h
  unfold insS
  generalize (l.filter fun o => !decide (rcomp s.1 o.1 < 0)).length = n at i1 i2
  have h' : Srt (l.take n ++ l.drop n) := by rw [List.take_append_drop]; exact h
  obtain ⟨a1, a2, a3⟩ := List.pairwise_append.mp h'
  unfold Srt
  rw [List.append_assoc]
  refine List.pairwise_append.mpr ⟨a1, ?_, fun x hx y hy => ?_⟩
  · refine List.pairwise_append.mpr ⟨by simp, a2, fun x hx y hy => ?_⟩
    rw [List.mem_singleton] at hx
    subst hx
    exact i2 y hy
  · rcases List.mem_append.mp hy with hy | hy
    · rw [List.mem_singleton] at hy
      subst hy
      exact i1 x hx
    · exact a3 x hx y hy
theorem foldS_srt : ∀ {l acc : List Sp2}, (∀ o ∈ l, 0 < o.1.2) → (∀ o ∈ acc, 0 < o.1.2) → Srt acc → Srt (l.foldl insS acc)
  | [], _, _, _, h => h
  | s :: l, acc, hl, ha, h => by
    rw [List.foldl_cons]
    refine foldS_srt (fun o ho => hl o (by simp [ho])) (fun o ho => ?_) (insS_srt (hl s (by simp)) ha h)
    rcases List.mem_cons.mp ((insS_perm acc s).mem_iff.mp ho) with rfl | ho
    · exact hl _ (by simp)
    · exact ha o ho
theorem ordS_srt {l : List Sp2} (h : ∀ o ∈ l, 0 < o.1.2) : Srt (ordS l) := foldS_srt h (fun o ho => (by cases ho)) List.Pairwise.nil
/-! the gap -/
def Sp01 (s : Sp2) : Prop := SpOk s ∧ 0 ≤ rq s.1 ∧ rq s.2 ≤ 1
/-- behind h: what a told share is, what it means that none is told -/
theorem go_some : ∀ {l : List Sp2} {h : Rt}, (∀ s ∈ l, Sp01 s) → Srt l → 0 < h.2 → 0 ≤ rq h → rq h ≤ 1 →
    (∀ g, gapGo l (some h) = some g → 0 < g.2 ∧ rq h < rq g ∧ rq g ≤ 1 ∧ ∀ s ∈ l, ¬ (rq s.1 ≤ rq g ∧ rq g ≤ rq s.2)) ∧
    (gapGo l (some h) = none → ∀ t, rq h < t → t ≤ 1 → ∃ s ∈ l, rq s.1 ≤ t ∧ t ≤ rq s.2)
  | [], h, _, _, hp, h0, h1 => by
    show (∀ g, (if rcomp h (1, 1) < 0 then some ((1, 1) : Rt) else none) = some g → _) ∧ ((if rcomp h (1, 1) < 0 then some ((1, 1) : Rt) else none) = none → _)
    by_cases c : rcomp h (1, 1) < 0
    · rw [if_pos c]
      have c2 := (rq_lt hp (by decide)).mp c
      rw [q11] at c2
      refine ⟨fun g e => ?_, fun e => (by cases e)⟩
      cases e
      rw [q11]
      exact ⟨by decide, c2, by grind, fun s hs => (by cases hs)⟩
    · rw [if_neg c]
      have c2 : ¬ rq h < 1 := fun w => c ((rq_lt hp (by decide)).mpr (by rw [q11]; exact w))
      exact ⟨fun g e => (by cases e), fun _ t t0 t1 => by exfalso; grind⟩
  | s :: l, h, hl, hs, hp, h0, h1 => by
    obtain ⟨sok, s0, s1⟩ := hl s (by simp)
    obtain ⟨p1, p2⟩ := List.pairwise_cons.mp hs
    have sle := sok.le
    show (∀ g, (if rcomp h s.1 < 0 then some (rprod (1, 2) (rsum h s.1)) else gapGo l (some (if rcomp h s.2 < 0 then s.2 else h))) = some g → _) ∧ ((if rcomp h s.1 < 0 then some (rprod (1, 2) (rsum h s.1)) else gapGo l (some (if rcomp h s.2 < 0 then s.2 else h))) = none → _)
    by_cases c : rcomp h s.1 < 0
    · rw [if_pos c]
      have c2 := (rq_lt hp sok.f).mp c
      have sp : 0 < (rsum h s.1).2 := nrm_pos _ _ (mul_ne hp sok.f)
      have eq : rq (rprod (1, 2) (rsum h s.1)) * 2 = rq h + rq s.1 := by
        rw [rq_prod (by decide) sp, rq_sum hp sok.f]
        have : rq (1, 2) * 2 = 1 := by unfold rq; grind
        grind
      refine ⟨fun g e => ?_, fun e => (by cases e)⟩
      cases e
      generalize rq (rprod (1, 2) (rsum h s.1)) = y at eq
      refine ⟨nrm_pos _ _ (mul_ne (by decide) sp), by grind, by grind, fun z hz => ?_⟩
      rcases List.mem_cons.mp hz with rfl | hz
      · grind
      · have := p1 z hz; grind
    · rw [if_neg c]
      have c2 : ¬ rq h < rq s.1 := fun w => c ((rq_lt hp sok.f).mpr w)
      have key : ∃ h' : Rt, h' = (if rcomp h s.2 < 0 then s.2 else h) ∧ 0 < h'.2 ∧ rq h ≤ rq h' ∧ rq s.2 ≤ rq h' ∧ rq h' ≤ 1 ∧ (rq h' = rq h ∨ rq h' = rq s.2) := by
        by_cases d : rcomp h s.2 < 0
        · have d2 := (rq_lt hp sok.l).mp d
          exact ⟨s.2, by rw [if_pos d], sok.l, by grind, by grind, s1, .inr rfl⟩
        · have d2 : ¬ rq h < rq s.2 := fun w => d ((rq_lt hp sok.l).mpr w)
          exact ⟨h, by rw [if_neg d], hp, by grind, by grind, h1, .inl rfl⟩
      obtain ⟨h', e', hp', k1, k2, k3, k4⟩ := key
      rw [← e']
      obtain ⟨i1, i2⟩ := go_some (l := l) (h := h') (fun z hz => hl z (by simp [hz])) p2 hp' (by grind) k3
      refine ⟨fun g e => ?_, fun e t t0 t1 => ?_⟩
      · obtain ⟨g0, g1, g2, g3⟩ := i1 g e
        refine ⟨g0, by grind, g2, fun z hz => ?_⟩
        rcases List.mem_cons.mp hz with rfl | hz
        · grind
        · exact g3 z hz
      · by_cases d : rq h' < t
        · obtain ⟨z, hz, k⟩ := i2 e t d t1
          exact ⟨z, by simp [hz], k⟩
        · exact ⟨s, by simp, by grind, by grind⟩
theorem gap_is {l : List Sp2} (hl : ∀ s ∈ l, Sp01 s) :
    (∀ g, gapF l = some g → 0 < g.2 ∧ 0 ≤ rq g ∧ rq g ≤ 1 ∧ ∀ s ∈ l, ¬ (rq s.1 ≤ rq g ∧ rq g ≤ rq s.2)) ∧ (gapF l = none → ∀ t, 0 ≤ t → t ≤ 1 → ∃ s ∈ l, rq s.1 ≤ t ∧ t ≤ rq s.2) := by
  have mem : ∀ s, s ∈ ordS l ↔ s ∈ l := fun s => (ordS_perm l).mem_iff
  have srt := ordS_srt (l := l) fun o ho => (hl o ho).1.f
  have hl' : ∀ s ∈ ordS l, Sp01 s := fun s hs => hl s ((mem s).mp hs)
  have core : (∀ g, gapF l = some g → 0 < g.2 ∧ 0 ≤ rq g ∧ rq g ≤ 1 ∧ ∀ s ∈ ordS l, ¬ (rq s.1 ≤ rq g ∧ rq g ≤ rq s.2)) ∧ (gapF l = none → ∀ t, 0 ≤ t → t ≤ 1 → ∃ s ∈ ordS l, rq s.1 ≤ t ∧ t ≤ rq s.2) := by
    unfold gapF
    generalize ordS l = m at srt hl'
    cases m with
    | nil =>
      refine ⟨fun g e => ?_, fun e => (by cases e)⟩
      have e : some ((0, 1) : Rt) = some g := e
      cases e
      rw [q01]
      exact ⟨by decide, Rat.le_refl, by grind, fun s hs => (by cases hs)⟩
    | cons s m =>
      obtain ⟨sok, s0, s1⟩ := hl' s (by simp)
      obtain ⟨p1, p2⟩ := List.pairwise_cons.mp srt
      have sle := sok.le
      show (∀ g, (if s.1 = (0, 1) then gapGo m (some s.2) else some ((0, 1) : Rt)) = some g → _) ∧ ((if s.1 = (0, 1) then gapGo m (some s.2) else some ((0, 1) : Rt)) = none → _)
      by_cases c : s.1 = (0, 1)
      · rw [if_pos c]
        have z := (nz_pos sok.f sok.fz).mp c
        obtain ⟨i1, i2⟩ := go_some (l := m) (h := s.2) (fun z hz => hl' z (by simp [hz])) p2 sok.l (by grind) s1
        refine ⟨fun g e => ?_, fun e t t0 t1 => ?_⟩
        · obtain ⟨g0, g1, g2, g3⟩ := i1 g e
          refine ⟨g0, by grind, g2, fun y hy => ?_⟩
          rcases List.mem_cons.mp hy with rfl | hy
          · grind
          · exact g3 y hy
        · by_cases d : rq s.2 < t
          · obtain ⟨y, hy, k⟩ := i2 e t d t1
            exact ⟨y, by simp [hy], k⟩
          · exact ⟨s, by simp, by grind, by grind⟩
      · rw [if_neg c]
        have z : rq s.1 ≠ 0 := fun w => c ((nz_pos sok.f sok.fz).mpr w)
        refine ⟨fun g e => ?_, fun e => (by cases e)⟩
        cases e
        rw [q01]
        refine ⟨by decide, Rat.le_refl, by grind, fun y hy => ?_⟩
        rcases List.mem_cons.mp hy with rfl | hy
        · grind
        · have := p1 y hy; grind
  refine ⟨fun g e => ?_, fun e t t0 t1 => ?_⟩
  · obtain ⟨g0, g1, g2, g3⟩ := core.1 g e
    exact ⟨g0, g1, g2, fun s hs => g3 s ((mem s).mpr hs)⟩
  · obtain ⟨s, hs, k⟩ := core.2 e t t0 t1
    exact ⟨s, (mem s).mp hs, k⟩
/-! bare points -/
theorem onWay_q {a b : Spt} {t : Rt} (ha : SP a) (hb : SP b) (ht : 0 < t.2) : SP (onWay a b t) ∧ rq (onWay a b t).1 = rq a.1 + rq t * (rq b.1 - rq a.1) ∧ rq (onWay a b t).2 = rq a.2 + rq t * (rq b.2 - rq a.2) := by
  obtain ⟨h1, h2⟩ := onAt_q (k := false) ha hb ht
  obtain ⟨h3, h4⟩ := onAt_q (k := true) ha hb ht
  exact ⟨⟨h1, h3⟩, h2, h4⟩
theorem nears_ok {p : Spt × Spt} {others : List Spt} {sl : Rt} (hp : SP p.1 ∧ SP p.2) (ho : ∀ s ∈ others, SP s) (hn : others ≠ []) (hs : 0 < sl.2) (h0 : 0 ≤ rq sl) : ∀ s ∈ (piecesF others).filterMap (fun q => nearF p.1 p.2 q.1 q.2 sl), Sp01 s := fun s hm => by
  obtain ⟨q, hq, e⟩ := List.mem_filterMap.mp hm
  obtain ⟨q1, q2⟩ := (piecesF_sp ho hn).2 q hq
  exact (near_is hp.1 hp.2 q1 q2 hs h0).1 s e
theorem bare_is {ones others : List Spt} {sl : Rt} (h1 : ∀ s ∈ ones, SP s) (hn1 : ones ≠ []) (ho : ∀ s ∈ others, SP s) (hn : others ≠ []) (hs : 0 < sl.2) (h0 : 0 ≤ rq sl) :
    (bareF ones others sl = none → ∀ p ∈ piecesF ones, ∀ t : Rt, 0 < t.2 → 0 ≤ rq t → rq t ≤ 1 → ∃ q ∈ piecesF others, Within (onWay p.1 p.2 t) q.1 q.2 (rq sl)) ∧
    (∀ s, bareF ones others sl = some s → ∃ p ∈ piecesF ones, ∃ g : Rt, 0 < g.2 ∧ 0 ≤ rq g ∧ rq g ≤ 1 ∧ s = onWay p.1 p.2 g ∧ gapF ((piecesF others).filterMap fun q => nearF p.1 p.2 q.1 q.2 sl) = some g ∧ ∀ q ∈ piecesF others, ¬ Within s q.1 q.2 (rq sl)) := by
  refine ⟨fun e p hp t tp t0 t1 => ?_, fun s e => ?_⟩
  · have pp := (piecesF_sp h1 hn1).2 p hp
    have g := List.findSome?_eq_none_iff.mp e p hp
    have g2 : gapF ((piecesF others).filterMap fun q => nearF p.1 p.2 q.1 q.2 sl) = none := by
      cases z : gapF ((piecesF others).filterMap fun q => nearF p.1 p.2 q.1 q.2 sl) with
      | none => rfl
      | some w => rw [z] at g; cases g
    obtain ⟨s, hm, k⟩ := (gap_is (nears_ok pp ho hn hs h0)).2 g2 (rq t) t0 t1
    obtain ⟨q, hq, eq⟩ := List.mem_filterMap.mp hm
    obtain ⟨q1, q2⟩ := (piecesF_sp ho hn).2 q hq
    refine ⟨q, hq, ?_⟩
    obtain ⟨_, e1, e2⟩ := onWay_q pp.1 pp.2 tp
    rw [within_q, e1, e2]
    exact (((near_is pp.1 pp.2 q1 q2 hs h0).2 (rq t)).mp ⟨s, eq, k⟩).2
  · obtain ⟨p, hp, g⟩ := List.exists_of_findSome?_eq_some e
    have pp := (piecesF_sp h1 hn1).2 p hp
    obtain ⟨w, hw, ew⟩ := Option.map_eq_some_iff.mp g
    obtain ⟨g0, g1, g2, g3⟩ := (gap_is (nears_ok pp ho hn hs h0)).1 w hw
    refine ⟨p, hp, w, g0, g1, g2, ew.symm, hw, fun q hq hw2 => ?_⟩
    obtain ⟨q1, q2⟩ := (piecesF_sp ho hn).2 q hq
    obtain ⟨_, e1, e2⟩ := onWay_q pp.1 pp.2 g0
    rw [← ew, within_q, e1, e2] at hw2
    obtain ⟨r, er, k⟩ := ((near_is pp.1 pp.2 q1 q2 hs h0).2 (rq w)).mpr ⟨⟨g1, g2⟩, hw2⟩
    exact g3 r (List.mem_filterMap.mpr ⟨q, hq, er⟩) k
/-- a point of a piece of the row lies on the row -/
theorem on_within {a b : Spt} {t : Rt} (ha : SP a) (hb : SP b) (ht : 0 < t.2) (t0 : 0 ≤ rq t) (t1 : rq t ≤ 1) : Within (onWay a b t) a b 0 := by
  obtain ⟨_, e1, e2⟩ := onWay_q ha hb ht
  refine ⟨rq t, t0, t1, ?_⟩
  unfold FB
  rw [e1, e2]
  refine ⟨?_, ?_, ?_, ?_⟩ <;> grind
theorem reach_iff {row : List Spt} {s : Spt} {r : Rt} (h : ∀ s ∈ row, SP s) (hn : row ≠ []) (hs : SP s) (hr : 0 < r.2) : reachF row s r = true ↔ ∃ p ∈ piecesF row, Within s p.1 p.2 (rq r) :=
  (reachF_is h hn hs hr).trans ((apartF_q hs h hn).2 (rq r)).symm
/-- two neighbours of a row are a piece of it -/
theorem pieces_next {row : List Spt} {k : Nat} (h : k + 1 < row.length) : (row[k], row[k + 1]) ∈ piecesF row := by
  unfold piecesF
  rw [if_neg (by omega)]
  refine List.mem_of_getElem? (i := k) ?_
  rw [List.getElem?_zip_eq_some]
  refine ⟨by rw [List.getElem?_eq_getElem], ?_⟩
  rw [List.getElem?_drop, Nat.add_comm 1 k, List.getElem?_eq_getElem h]
/-- the first spot -/
theorem pieces_head {row : List Spt} (h : ∀ s ∈ row, SP s) (hn : row ≠ []) : ∃ p ∈ piecesF row, p.1 = row.headD ((0, 1), (0, 1)) := by
  match row, hn with
  | [a], _ => exact ⟨(a, a), by simp [piecesF], rfl⟩
  | a :: b :: r, _ => exact ⟨(a, b), by simp [piecesF], rfl⟩
theorem on_zero {a b : Spt} (ha : SP a) (hb : SP b) : ∀ {c d : Spt} {B : Rat}, Within (onWay a b (0, 1)) c d B → Within a c d B := fun {c d B} h => by
  obtain ⟨_, e1, e2⟩ := onWay_q (t := (0, 1)) ha hb (by decide)
  rw [within_q, e1, e2, q01] at h
  rw [within_q]
  rwa [show rq a.1 + 0 * (rq b.1 - rq a.1) = rq a.1 by grind, show rq a.2 + 0 * (rq b.2 - rq a.2) = rq a.2 by grind] at h
end G3

set_option Elab.async false
set_option linter.all false
set_option maxRecDepth 100000
set_option maxHeartbeats 4000000
/-! k21: sizes, promises -/
namespace G3
open PySem L2 PySem.W
theorem narrow_bits {n a m l N : Nat} {sp : Rt × Rt} {s f lo hi : Rt} {r : Rt × Rt} (h1 : RB n sp.1) (h2 : RB n sp.2) (hs : RB a s) (hf : RB m f) (fz : Nz f) (hl : RB l lo) (hh : RB l hi) (k1 : n ≤ N) (k2 : l + a + 1 + m ≤ N) (h : narrowF sp s f lo hi = some r) : RB N r.1 ∧ RB N r.2 := by
  unfold narrowF at h
  by_cases c : f = (0, 1)
  · rw [if_pos c] at h
    split at h
    · cases h
    · cases h; exact ⟨h1.mono k1, h2.mono k1⟩
  · rw [if_neg c] at h
    have c1 : f.1 ≠ 0 := fun z => c (fz z)
    have q1 : RB N (rquo (rdif lo s) f) := ((hl.dif hs).quo hf c1).mono k2
    have q2 : RB N (rquo (rdif hi s) f) := ((hh.dif hs).quo hf c1).mono k2
    dsimp only at h
    have u : RB N (if rcomp (rquo (rdif hi s) f) (rquo (rdif lo s) f) < 0 then rquo (rdif hi s) f else rquo (rdif lo s) f) := by split <;> assumption
    have v : RB N (if rcomp (rquo (rdif hi s) f) (rquo (rdif lo s) f) < 0 then rquo (rdif lo s) f else rquo (rdif hi s) f) := by split <;> assumption
    generalize (if rcomp (rquo (rdif hi s) f) (rquo (rdif lo s) f) < 0 then rquo (rdif hi s) f else rquo (rdif lo s) f) = x at h u
    generalize (if rcomp (rquo (rdif hi s) f) (rquo (rdif lo s) f) < 0 then rquo (rdif lo s) f else rquo (rdif hi s) f) = y at h v
    have w1 : RB N (if rcomp sp.1 x < 0 then x else sp.1) := by
      split
      · exact u
      · exact h1.mono k1
    have w2 : RB N (if rcomp y sp.2 < 0 then y else sp.2) := by
      split
      · exact v
      · exact h2.mono k1
    generalize (if rcomp sp.1 x < 0 then x else sp.1) = z1 at h w1
    generalize (if rcomp y sp.2 < 0 then y else sp.2) = z2 at h w2
    split at h
    · cases h
    · cases h; exact ⟨w1, w2⟩
theorem sort2_bits {n : Nat} {a b : Rt} (ha : RB n a) (hb : RB n b) : RB n (sort2 a b).1 ∧ RB n (sort2 a b).2 := by
  unfold sort2; split
  · exact ⟨hb, ha⟩
  · exact ⟨ha, hb⟩
theorem lean_bits {x y : Rt} {c s : Spt} (hx : RB 73 x) (hy : RB 73 y) (hc : SB 36 c) (hs : SB 36 s) : RB 293 (leanF x y c s) := (((hx.prod (hs.y.dif hc.y)).mono (m := 146) (by decide)).dif ((hy.prod (hs.x.dif hc.x)).mono (m := 146) (by decide))).mono (by decide)
theorem room_bits {c d : Spt} {sl : Rt} (hc : SB 36 c) (hd : SB 36 d) (hs : RB 443 sl) : RB 590 (roomF c d sl) := (hs.prod (((hd.x.dif hc.x).abs).sum ((hd.y.dif hc.y).abs))).mono (by decide)
theorem way_bits {k : Bool} {a b c d : Spt} {sl : Rt} {sp r : Rt × Rt} (ha : SB 36 a) (hb : SB 36 b) (hc : SB 36 c) (hd : SB 36 d) (hs : RB 443 sl) (h1 : RB 590 sp.1) (h2 : RB 590 sp.2) (h : nearWay k a b c d sl sp = some r) : RB 590 r.1 ∧ RB 590 r.2 := by
  obtain ⟨s1, s2⟩ := sort2_bits (hc.pk k) (hd.pk k)
  exact narrow_bits (n := 590) (a := 36) (m := 73) (l := 480) h1 h2 (ha.pk k) (((hb.pk k).dif (ha.pk k)).mono (by decide)) (nz_nrm (mul_ne (hb.pk k).pos (ha.pk k).pos)) ((s1.dif hs).mono (by decide)) ((s2.sum hs).mono (by decide)) (by decide) (by decide) h
theorem near_bits {a b c d : Spt} {sl : Rt} {r : Rt × Rt} (ha : SB 36 a) (hb : SB 36 b) (hc : SB 36 c) (hd : SB 36 d) (hs : RB 443 sl) (h : nearF a b c d sl = some r) : RB 1473 r.1 ∧ RB 1473 r.2 := by
  unfold nearF at h
  obtain ⟨n, hn, h3⟩ := Option.bind_eq_some_iff.mp h
  obtain ⟨m, hm, h2⟩ := Option.bind_eq_some_iff.mp hn
  obtain ⟨m1, m2⟩ := way_bits (sp := ((0, 1), (1, 1))) ha hb hc hd hs (RB.zero.mono (by decide)) (⟨by decide, by decide, by decide⟩ : RB 590 (1, 1)) hm
  obtain ⟨n1, n2⟩ := way_bits ha hb hc hd hs m1 m2 h2
  have x := (hd.x.dif hc.x).mono (m := 73) (by decide)
  have y := (hd.y.dif hc.y).mono (m := 73) (by decide)
  have l1 := lean_bits x y hc ha
  have l2 := lean_bits x y hc hb
  have rm := room_bits hc hd hs
  exact narrow_bits (n := 590) (a := 293) (m := 587) (l := 592) n1 n2 l1 ((l2.dif l1).mono (by decide)) (nz_nrm (mul_ne l2.pos l1.pos)) ((RB.zero.dif rm).mono (by decide)) (rm.mono (by decide)) (by decide) (by decide) h3
theorem go_bits {n : Nat} : ∀ {l : List Sp2} {o : Option Rt} {g : Rt}, (∀ s ∈ l, RB n s.1 ∧ RB n s.2) → (∀ h, o = some h → RB n h) → gapGo l o = some g → RB (2 * n + 3) g
  | [], none, g, _, _, e => by cases e; exact RB.zero.mono (by omega)
  | [], some h, g, _, _, e => by
    have e : (if rcomp h (1, 1) < 0 then some ((1, 1) : Rt) else none) = some g := e
    split at e
    · cases e; exact (⟨by decide, by decide, by decide⟩ : RB 1 (1, 1)).mono (by omega)
    · cases e
  | s :: l, none, g, hl, _, e => by
    have e : (if s.1 = (0, 1) then gapGo l (some s.2) else some ((0, 1) : Rt)) = some g := e
    split at e
    · exact go_bits (l := l) (fun z hz => hl z (by simp [hz])) (fun h eh => by cases eh; exact (hl s (by simp)).2) e
    · cases e; exact RB.zero.mono (by omega)
  | s :: l, some h, g, hl, ho, e => by
    have hb := ho h rfl
    have e : (if rcomp h s.1 < 0 then some (rprod (1, 2) (rsum h s.1)) else gapGo l (some (if rcomp h s.2 < 0 then s.2 else h))) = some g := e
    split at e
    · cases e
      exact ((⟨by decide, by decide, by decide⟩ : RB 2 (1, 2)).prod (hb.sum (hl s (by simp)).1)).mono (by omega)
    · refine go_bits (l := l) (fun z hz => hl z (by simp [hz])) (fun z ez => ?_) e
      cases ez
      split
      · exact (hl s (by simp)).2
      · exact hb
theorem gap_bits {n : Nat} {l : List Sp2} {g : Rt} (h : ∀ s ∈ l, RB n s.1 ∧ RB n s.2) (e : gapF l = some g) : RB (2 * n + 3) g :=
  go_bits (l := ordS l) (fun s hs => h s ((ordS_perm l).mem_iff.mp hs)) (fun _ z => by cases z) e
theorem onWay_bits2 {n m : Nat} {a b : Spt} {t : Rt} (ha : SB n a) (hb : SB n b) (ht : RB m t) : SB (m + 3 * n + 2) (onWay a b t) :=
  ⟨(ha.x.sum (ht.prod (hb.x.dif ha.x))).mono (by omega), (ha.y.sum (ht.prod (hb.y.dif ha.y))).mono (by omega)⟩
theorem pieces_bits2 {n : Nat} {row : List Spt} (h : ∀ s ∈ row, SB n s) (hn : row ≠ []) : ∀ p ∈ piecesF row, SB n p.1 ∧ SB n p.2 := fun p hp => by
  unfold piecesF at hp
  split at hp
  · rw [List.mem_singleton] at hp
    subst hp
    cases row with
    | nil => exact absurd rfl hn
    | cons a r => exact ⟨h a (by simp), h a (by simp)⟩
  · have z : (p.1, p.2) ∈ row.zip (row.drop 1) := hp
    exact ⟨h _ (List.of_mem_zip z).1, h _ (List.mem_of_mem_drop (List.of_mem_zip z).2)⟩
theorem bare_bits {ones others : List Spt} {sl : Rt} {s : Spt} (h1 : ∀ s ∈ ones, SB 36 s) (hn1 : ones ≠ []) (h2 : ∀ s ∈ others, SB 36 s) (hn2 : others ≠ []) (hs : RB 443 sl) (h : bareF ones others sl = some s) : SB 3059 s := by
  obtain ⟨p, hp, e⟩ := List.exists_of_findSome?_eq_some h
  obtain ⟨g, hg, es⟩ := Option.map_eq_some_iff.mp e
  obtain ⟨p1, p2⟩ := pieces_bits2 h1 hn1 p hp
  have gb : RB 2949 g := gap_bits (n := 1473) (fun s hs' => by
    obtain ⟨q, hq, en⟩ := List.mem_filterMap.mp hs'
    obtain ⟨q1, q2⟩ := pieces_bits2 h2 hn2 q hq
    exact near_bits p1 p2 q1 q2 hs en) hg
  have es : onWay p.1 p.2 g = s := es
  rw [← es]
  exact (onWay_bits2 p1 p2 gb).mono (by decide)
theorem shares_bits2 {s a b : Spt} (hs : SB 36 s) (ha : SB 36 a) (hb : SB 36 b) : ∀ t ∈ sharesF s a b, RB 296 t := fun t h => by
  have dx := ha.x.dif hs.x
  have dy := ha.y.dif hs.y
  have ex := hb.x.dif ha.x
  have ey := hb.y.dif ha.y
  have zx : (rdif b.1 a.1).1 = 0 → rdif b.1 a.1 = (0, 1) := nz_nrm (mul_ne hb.x.pos ha.x.pos)
  have zy : (rdif b.2 a.2).1 = 0 → rdif b.2 a.2 = (0, 1) := nz_nrm (mul_ne hb.y.pos ha.y.pos)
  unfold sharesF at h
  rcases List.mem_append.mp h with h | h
  · rcases List.mem_append.mp h with h | h
    · rcases List.mem_append.mp h with h | h
      · rcases List.mem_append.mp h with h | h
        · simp only [List.mem_cons, List.not_mem_nil, or_false] at h
          rcases h with rfl | rfl
          · exact RB.zero.mono (by decide)
          · exact (⟨by decide, by decide, by decide⟩ : RB 1 (1, 1)).mono (by decide)
        · exact (crossF_bits dx ex zx t h).mono (by decide)
      · exact (crossF_bits dy ey zy t h).mono (by decide)
    · exact (crossF_bits (dx.dif dy) (ex.dif ey) (nz_nrm (mul_ne ex.pos ey.pos)) t h).mono (by decide)
  · exact (crossF_bits (dx.sum dy) (ex.sum ey) (nz_nrm (mul_ne ex.pos ey.pos)) t h).mono (by decide)
theorem toPiece_bits2 {s a b : Spt} (hs : SB 36 s) (ha : SB 36 a) (hb : SB 36 b) : RB 443 (toPiece s a b) := by
  unfold toPiece
  have hne : (goodF s a b).map (fun t => apartOf s (onWay a b t)) ≠ [] := fun z => good_ne hs.sp ha.sp hb.sp (List.map_eq_nil_iff.mp z)
  have all : ∀ x ∈ (goodF s a b).map (fun t => apartOf s (onWay a b t)), RB 443 x := fun x hx => by
    obtain ⟨t, ht, rfl⟩ := List.mem_map.mp hx
    have tb := shares_bits2 hs ha hb t (List.mem_filter.mp ht).1
    have ob : SB 406 (onWay a b t) := ⟨(ha.x.sum (tb.prod (hb.x.dif ha.x))).mono (by decide), (ha.y.sum (tb.prod (hb.y.dif ha.y))).mono (by decide)⟩
    exact (apartOf_bits hs ob).mono (by decide)
  exact all _ (leastL_in hne fun y hy => (all y hy).pos)
theorem apartF_bits2 {s : Spt} {row : List Spt} (hs : SB 36 s) (h : ∀ s ∈ row, SB 36 s) (hn : row ≠ []) : RB 443 (apartF s row) := by
  unfold apartF
  have pne := (piecesF_sp (fun s hs => (h s hs).sp) hn).1
  have hne : (piecesF row).map (fun p => toPiece s p.1 p.2) ≠ [] := fun z => pne (List.map_eq_nil_iff.mp z)
  have all : ∀ x ∈ (piecesF row).map (fun p => toPiece s p.1 p.2), RB 443 x := fun x hx => by
    obtain ⟨p, hp, rfl⟩ := List.mem_map.mp hx
    obtain ⟨p1, p2⟩ := pieces_bits2 h hn p hp
    exact toPiece_bits2 hs p1 p2
  exact all _ (leastL_in hne fun y hy => (all y hy).pos)
/-! promises -/
abbrev vs2 (s : Sp2) : VV := .tup [vr s.1, vr s.2]
def spNarrow : Sp3 := fun ws M Q => ∃ (sp : Rt × Rt) (s f lo hi : Rt) (a m l : Nat), ws = [vs2 sp, vr s, vr f, vr lo, vr hi] ∧ RB BIG sp.1 ∧ RB BIG sp.2 ∧ RB a s ∧ RB m f ∧ Nz f ∧ RB l lo ∧ RB l hi ∧ l + a + 1 + m ≤ BIG ∧ Q (optv (narrowF sp s f lo hi)) M
def spSort2 : Sp3 := fun ws M Q => ∃ a b : Rt, ws = [vr a, vr b] ∧ RB BIG a ∧ RB BIG b ∧ Q (vs2 (sort2 a b)) M
def spLean : Sp3 := fun ws M Q => ∃ (x y : Rt) (c s : Spt), ws = [vr x, vr y, vsp c, vsp s] ∧ RB 73 x ∧ RB 73 y ∧ SB 36 c ∧ SB 36 s ∧ Q (vr (leanF x y c s)) M
def spNear : Sp3 := fun ws M Q => ∃ (a b c d : Spt) (sl : Rt), ws = [vpp (a, b), vpp (c, d), vr sl] ∧ SB 36 a ∧ SB 36 b ∧ SB 36 c ∧ SB 36 d ∧ RB 443 sl ∧ Q (optv (nearF a b c d sl)) M
def spInOrder : Sp3 := fun ws M Q => ∃ (w : VV) (l : List Sp2), ws = [w] ∧ Lst M w (l.map vs2) ∧ l.length ≤ 100 ∧ (∀ s ∈ l, RB BIG s.1 ∧ RB BIG s.2) ∧ ∀ p M2, M p = none → LeM M M2 → M2 p = some (.lst ((ordS l).map vs2)) → Q (.ref p) M2
def optr : Option Rt → VV
  | none => .non
  | some r => vr r
def optp : Option Spt → VV
  | none => .non
  | some r => vsp r
def spGap : Sp3 := fun ws M Q => ∃ (w : VV) (l : List Sp2), ws = [w] ∧ Lst M w (l.map vs2) ∧ l.length ≤ 100 ∧ (∀ s ∈ l, RB 1473 s.1 ∧ RB 1473 s.2) ∧ Q (optr (gapF l)) M
def spBare : Sp3 := fun ws M Q => ∃ (w u : VV) (ones others : List Spt) (sl : Rt), ws = [w, u, vr sl] ∧ Lst M w (ones.map vsp) ∧ Lst M u (others.map vsp) ∧ ones ≠ [] ∧ others ≠ [] ∧ ones.length ≤ 100 ∧ others.length ≤ 100 ∧ (∀ s ∈ ones, SB 36 s) ∧ (∀ s ∈ others, SB 36 s) ∧ RB 443 sl ∧ Q (optp (bareF ones others sl)) M
end G3
namespace G3
open PySem L2 PySem.W
def spOnW : Sp3 := fun ws M Q => ∃ (a b : Spt) (t : Rt) (n m : Nat), ws = [vsp a, vsp b, vr t] ∧ SB n a ∧ SB n b ∧ RB m t ∧ m + 3 * n + 2 ≤ BIG ∧ Q (vsp (onWay a b t)) M
end G3
namespace G3
open PySem L2 PySem.W
theorem wgs_anyN {X : Cx} {σ : St3} {M : Mp} {t : Expr} {ts : List Expr} {R : St3 → Mp → Prop} {u : VV} {us : List VV} (h : WG X t u σ M fun σ1 M1 => WGs X ts us σ1 M1 R) (hs : (assignEach (t :: ts) X.env).map (·.2) = assign t X.env :: (assignEach ts X.env).map (·.2) := by rfl) : WGs X (t :: ts) (u :: us) σ M R := fun σ' H vs s m r => by
  cases r with
  | cons r1 r2 =>
    exact wGs.of (pgs_cons wG.pg wGs.pgs hs) ⟨_, _, rfl, (h σ' H _ s m r1).mono fun σ1 H1 ⟨σ2, M2, t2, s2, m2, q⟩ => (q σ1 H1 _ s2 m2 (Rvs.mono t2 _ _ r2)).mono fun σ3 H3 z => PoS.tr t2 z⟩
end G3
namespace G3
open PySem L2 PySem.W
theorem o2_neRt {X : Cx} {M : Mp} {Q : VQ} {p q : Rt} (hu : X.A.units + 64 < cLine) (h : Q (.bl (!decide (p = q))) M) : O2 X (compareOp .NotEq) (vr p) (vr q) M Q :=
  o2_neT (Nat.lt_of_le_of_lt (Nat.add_le_add_left (by decide : _ ≤ 64) _) hu) (dwRt p) (dwRt q) h
end G3

set_option Elab.async false
set_option linter.all false
set_option maxRecDepth 100000
set_option maxHeartbeats 4000000
/-! k21: how great drawn ratios are; promises of the law's defs -/
namespace G3
open PySem L2 PySem.W
/-- at most v in size, at most d below -/
structure VB (v d : Nat) (p : Rt) : Prop where
  pos : 0 < p.2
  den : p.2.natAbs ≤ d
  val : p.1.natAbs ≤ v * p.2.natAbs
theorem VB.mono {v w d e : Nat} {p : Rt} (h : VB v d p) (h1 : v ≤ w) (h2 : d ≤ e) : VB w e p := ⟨h.pos, Nat.le_trans h.den h2, Nat.le_trans h.val (Nat.mul_le_mul_right _ h1)⟩
theorem vb_nrm {v d : Nat} {a b : Int} (hb : 0 < b) (h1 : b.natAbs ≤ d) (h2 : a.natAbs ≤ v * b.natAbs) : VB v d (nrm a b) := by
  obtain ⟨g, g0, e1, e2, p, _⟩ := nrm_is a b (by omega)
  refine ⟨p, Nat.le_trans (nrm_le2 a b (by omega)) h1, ?_⟩
  have e3 : a.natAbs = (nrm a b).1.natAbs * g.natAbs := by rw [← Int.natAbs_mul, ← e1]
  have e4 : b.natAbs = (nrm a b).2.natAbs * g.natAbs := by rw [← Int.natAbs_mul, ← e2]
  rw [e3, e4, ← Nat.mul_assoc] at h2
  exact Nat.le_of_mul_le_mul_right h2 (Int.natAbs_pos.mpr g0)
theorem VB.sum {v w d e : Nat} {p q : Rt} (h : VB v d p) (k : VB w e q) : VB (v + w) (d * e) (rsum p q) := by
  have hp := h.pos
  have kp := k.pos
  refine vb_nrm (Int.mul_pos hp kp) (by rw [Int.natAbs_mul]; exact Nat.mul_le_mul h.den k.den) ?_
  refine Nat.le_trans (Int.natAbs_add_le _ _) ?_
  rw [Int.natAbs_mul, Int.natAbs_mul, Int.natAbs_mul, Nat.add_mul]
  refine Nat.add_le_add ?_ ?_
  · rw [← Nat.mul_assoc]
    exact Nat.mul_le_mul_right _ h.val
  · have := Nat.mul_le_mul_right p.2.natAbs k.val
    rw [Nat.mul_comm p.2.natAbs q.2.natAbs, ← Nat.mul_assoc]
    exact this
theorem VB.rb {v d n : Nat} {p : Rt} (h : VB v d p) (h1 : v * d < 2 ^ n) (h2 : d < 2 ^ n) : RB n p :=
  ⟨Nat.lt_of_le_of_lt (Nat.le_trans h.val (Nat.mul_le_mul_left _ h.den)) h1, Nat.lt_of_le_of_lt h.den h2, h.pos⟩
/-- the i-th spot of a row at the most -/
def XB (i : Nat) (s : Spt) : Prop := VB (20 + 4 * i) (60 ^ (i + 1)) s.1 ∧ VB (20 + 4 * i) (60 ^ (i + 1)) s.2
theorem XB.mono {i j : Nat} {s : Spt} (h : XB i s) (l : i ≤ j) : XB j s := ⟨h.1.mono (by omega) (Nat.pow_le_pow_right (by decide) (by omega)), h.2.mono (by omega) (Nat.pow_le_pow_right (by decide) (by omega))⟩
theorem XB.step {i : Nat} {s : Spt} {p q : Rt} (h : XB i s) (hp : VB 4 60 p) (hq : VB 4 60 q) : XB (i + 1) (rsum s.1 p, rsum s.2 q) :=
  ⟨(h.1.sum hp).mono (by omega) (by rw [Nat.pow_succ]; exact Nat.le_refl _), (h.2.sum hq).mono (by omega) (by rw [Nat.pow_succ]; exact Nat.le_refl _)⟩
theorem XB.sb {s : Spt} (h : XB 4 s) : SB 36 s := ⟨h.1.rb (by decide) (by decide), h.2.rb (by decide) (by decide)⟩
def spRatioV : Sp3 := fun ws M Q => ∃ (b : Addr) (reach : Nat), ws = [.ref b, .int reach] ∧ M b = some .bag ∧ reach ≤ 100 ∧ ∀ x : Rt, VB reach 60 x → Q (vr x) M
def spSpotV : Sp3 := fun ws M Q => ∃ (b : Addr) (reach : Nat), ws = [.ref b, .int reach] ∧ M b = some .bag ∧ reach ≤ 100 ∧ ∀ s : Spt, VB reach 60 s.1 → VB reach 60 s.2 → Q (vsp s) M
def spCornersV : Sp3 := fun ws M Q => ∃ b : Addr, ws = [.ref b, .int 4] ∧ M b = some .bag ∧ ∀ (p : Addr) (row : List Spt) M2, M p = none → LeM M M2 → 2 ≤ row.length → row.length ≤ 5 → (∀ s ∈ row, SB 36 s) → M2 p = some (.lst (row.map vsp)) → Q (.ref p) M2
/-- a spot as a tuple, or as a list of two -/
def Lst2 (M : Mp) (w : VV) (s : Spt) : Prop := w = vsp s ∨ Lst M w [vr s.1, vr s.2]
theorem oi_two0 {X : Cx} {M : Mp} {Q : VQ} {w : VV} {s : Spt} (h : Lst2 M w s) (q : Q (vr s.1) M) : OI X w (.int 0) M Q := by
  rcases h with rfl | h
  · exact oi_tup rfl q
  · exact oi_lst h rfl q
theorem oi_two1 {X : Cx} {M : Mp} {Q : VQ} {w : VV} {s : Spt} (h : Lst2 M w s) (q : Q (vr s.2) M) : OI X w (.int 1) M Q := by
  rcases h with rfl | h
  · exact oi_tup rfl q
  · exact oi_lst h rfl q
def spReachG : Sp3 := fun ws M Q => ∃ (w : VV) (row : List Spt) (s : Spt) (r : Rt) (n m : Nat), ws = [vsp s, w, vr r] ∧ Lst M w (row.map vsp) ∧ row.length ≤ 100 ∧ (∀ s ∈ row, SB 36 s) ∧ SB n s ∧ RB m r ∧ n + m + 1 + 110 ≤ BIG ∧ Q (.bl (reachF row s r)) M
def spIsSpot : Sp3 := fun ws M Q => ∃ s : Spt, ws = [vsp s] ∧ (0 < s.1.2 ∧ Int.gcd s.1.1 s.1.2 = 1 ∧ s.1.2.natAbs < 2 ^ 8990) ∧ (0 < s.2.2 ∧ Int.gcd s.2.1 s.2.2 = 1 ∧ s.2.2.natAbs < 2 ^ 8990) ∧ Q (.bl true) M
/-- the law's cut of a span, of any sizes that fit -/
def spSpanG : Sp3 := fun ws M Q => ∃ (o : Option (Rt × Rt)) (s far lo hi : Rt) (a m l : Nat), ws = [optv o, vr s, vr far, vr lo, vr hi] ∧ (∀ r, o = some r → RB BIG r.1 ∧ RB BIG r.2) ∧ RB a s ∧ RB m far ∧ RB l lo ∧ RB l hi ∧ l + a + 1 + m ≤ BIG ∧ Q (optv (spanR o s far lo hi)) M
def spClipG : Sp3 := fun ws M Q => ∃ (w u : VV) (a b lo hi : Spt) (l : Nat), ws = [vsp a, vsp b, w, u] ∧ Lst2 M w lo ∧ Lst2 M u hi ∧ SB 36 a ∧ SB 36 b ∧ SB l lo ∧ SB l hi ∧ l + 36 + 1 + 73 ≤ BIG ∧ Q (optv (clipR a b lo hi)) M
end G3
namespace G3
open PySem L2 PySem.W
/-- a share of a piece, small -/
structure Sh (n : Nat) (p : Rt) : Prop where
  b : RB n p
  l : 0 ≤ rq p
  h : rq p ≤ 1
theorem Sh.mono {n m : Nat} {p : Rt} (s : Sh n p) (h : n ≤ m) : Sh m p := ⟨s.b.mono h, s.l, s.h⟩
theorem sh_of {n : Nat} {p : Rt} (h : RB n p) (h0 : 0 ≤ p.1) (h1 : p.1 ≤ p.2) : Sh n p := by
  have e0 := q01
  have e1 := q11
  refine ⟨h, ?_, ?_⟩
  · have := (rq_le (p := (0, 1)) (q := p) (by decide) h.pos).mp (by unfold rcomp; show (0 : Int) * p.2 - p.1 * 1 ≤ 0; omega)
    rwa [e0] at this
  · have := (rq_le (p := p) (q := (1, 1)) h.pos (by decide)).mp (by unfold rcomp; show p.1 * 1 - 1 * p.2 ≤ 0; omega)
    rwa [e1] at this
theorem clip_share {a b lo hi : Spt} {r : Rt × Rt} (ha : SP a) (hb : SP b) (hl : SP lo) (hh : SP hi) (h : clipR a b lo hi = some r) : 0 < r.1.2 ∧ 0 < r.2.2 ∧ 0 ≤ rq r.1 ∧ rq r.1 ≤ rq r.2 ∧ rq r.2 ≤ 1 := by
  unfold clipR at h
  have f1 : 0 < (rdif b.1 a.1).2 := nrm_pos _ _ (mul_ne hb.x ha.x)
  have f2 : 0 < (rdif b.2 a.2).2 := nrm_pos _ _ (mul_ne hb.y ha.y)
  cases hm : spanR (some ((0, 1), (1, 1))) a.1 (rdif b.1 a.1) lo.1 hi.1 with
  | none => rw [hm] at h; cases h
  | some m =>
    rw [hm] at h
    obtain ⟨m1, m2, m3, m4, m5, m6⟩ := spanR_out (by decide) (by decide) ha.x f1 hl.x hh.x hm (by rw [q01, q11]; grind)
    obtain ⟨n1, n2, n3, n4, n5, n6⟩ := spanR_out (a := m.1) (b := m.2) m1 m2 ha.y f2 hl.y hh.y h m4
    rw [q01] at m3
    rw [q11] at m5
    exact ⟨n1, n2, by grind, n4, by grind⟩
/-- a spot of a row, by a piece and a share -/
def OnRow (row : List Spt) (s : Spt) : Prop := s = row.headD ((0, 1), (0, 1)) ∨ ∃ p ∈ piecesF row, ∃ t : Rt, 0 < t.2 ∧ 0 ≤ rq t ∧ rq t ≤ 1 ∧ s = onWay p.1 p.2 t
def spBits : Sp3 := fun ws M Q => ∃ (a b c d : Spt) (r : Rt), ws = [vsp a, vsp b, vsp c, vsp d, vr r] ∧ SB 36 a ∧ SB 36 b ∧ SB 36 c ∧ SB 36 d ∧ RB 443 r ∧ ∀ o M2, LeM M M2 → (∀ z, o = some z → Sh 590 z.1 ∧ Sh 590 z.2) → Q (optv o) M2
def spSpotsOf : Sp3 := fun ws M Q => ∃ (b : Addr) (w u : VV) (ones others : List Spt) (r : Rt), ws = [.ref b, w, u, vr r] ∧ M b = some .bag ∧ Lst M w (ones.map vsp) ∧ Lst M u (others.map vsp) ∧ ones ≠ [] ∧ ones.length ≤ 5 ∧ others.length ≤ 5 ∧ (∀ s ∈ ones, SB 36 s) ∧ (∀ s ∈ others, SB 36 s) ∧ RB 443 r ∧
  ∀ (p : Addr) (l : List Spt) (M2 : Mp), M p = none → LeM M M2 → l.length ≤ 1000 → (∀ s ∈ l, SB 711 s ∧ OnRow ones s) → M2 p = some (.lst (l.map vsp)) → Q (.ref p) M2
end G3

set_option Elab.async false
set_option linter.all false
set_option maxRecDepth 100000
set_option maxHeartbeats 4000000
/-! k21: what the law asks, in plain Lean -/
namespace G3
open PySem L2 PySem.W
theorem bare_none {ones others : List Spt} {sl : Rt} {s : Spt} (h1 : ∀ s ∈ ones, SP s) (hn1 : ones ≠ []) (ho : ∀ s ∈ others, SP s) (hn : others ≠ []) (hs : 0 < sl.2) (h0 : 0 ≤ rq sl) (e : bareF ones others sl = none) (hsp : SP s) (hr : OnRow ones s) : reachF others s sl = true := by
  have core := (bare_is h1 hn1 ho hn hs h0).1 e
  rw [reach_iff ho hn hsp hs]
  rcases hr with rfl | ⟨p, hp, t, t0, t1, t2, rfl⟩
  · obtain ⟨p, hp, ep⟩ := pieces_head h1 hn1
    have pp := (piecesF_sp h1 hn1).2 p hp
    obtain ⟨q, hq, w⟩ := core p hp (0, 1) (by decide) (by rw [q01]; exact Rat.le_refl) (by rw [q01]; grind)
    exact ⟨q, hq, by rw [← ep]; exact on_zero pp.1 pp.2 w⟩
  · exact core p hp t t0 t1 t2
theorem bare_some {ones others : List Spt} {sl : Rt} {s : Spt} (h1 : ∀ s ∈ ones, SP s) (hn1 : ones ≠ []) (ho : ∀ s ∈ others, SP s) (hn : others ≠ []) (hs : 0 < sl.2) (h0 : 0 ≤ rq sl) (e : bareF ones others sl = some s) :
    SP s ∧ Int.gcd s.1.1 s.1.2 = 1 ∧ Int.gcd s.2.1 s.2.2 = 1 ∧ reachF ones s (0, 1) = true ∧ reachF others s sl = false := by
  obtain ⟨p, hp, g, g0, g1, g2, es, _, hw⟩ := (bare_is h1 hn1 ho hn hs h0).2 s e
  have pp := (piecesF_sp h1 hn1).2 p hp
  have hsp : SP s := by rw [es]; exact (onWay_q pp.1 pp.2 g0).1
  have n1 : 0 < (rprod g (rdif p.2.1 p.1.1)).2 := nrm_pos _ _ (mul_ne g0 (nrm_pos _ _ (mul_ne pp.2.x pp.1.x)))
  have n2 : 0 < (rprod g (rdif p.2.2 p.1.2)).2 := nrm_pos _ _ (mul_ne g0 (nrm_pos _ _ (mul_ne pp.2.y pp.1.y)))
  refine ⟨hsp, ?_, ?_, ?_, ?_⟩
  · rw [es]; exact nrm_cop _ _ (mul_ne pp.1.x n1)
  · rw [es]; exact nrm_cop _ _ (mul_ne pp.1.y n2)
  · rw [reach_iff h1 hn1 hsp (by decide), q01]
    exact ⟨p, hp, by rw [es]; exact on_within pp.1 pp.2 g0 g1 g2⟩
  · rw [Bool.eq_false_iff]
    intro z
    obtain ⟨q, hq, w⟩ := (reach_iff ho hn hsp hs).mp z
    exact hw q hq w
theorem rabs_nn {p : Rt} (h : 0 < p.2) : 0 < (rabs p).2 ∧ 0 ≤ rq (rabs p) := by
  refine ⟨h, ?_⟩
  rw [rq_abs h]
  split <;> grind
end G3

def G3.top (i : Nat) : PySem.Stmt := PySem.Challenge.pw_gromatic_k21_whole_bare_points.main.body.getD i (.Pass ⟨0, 0, 0, 0⟩)
set_option Elab.async false
set_option linter.all false
set_option maxRecDepth 100000
set_option maxHeartbeats 4000000
set_option pp.maxSteps 1000
namespace G3
open PySem PySem.Spec L2
local macro_rules | `(tactic| walk_at "at") => `(tactic| with_reducible (repeat (first | exact At.here | apply At.there)))
local macro_rules | `(tactic| walk_at "vis") => `(tactic| first | exact Or.inl rfl | exact Or.inr (Or.inl rfl) | exact Or.inr (Or.inr rfl))
local macro_rules | `(tactic| walk_at "loc") => `(tactic| first | exact Or.inl rfl | exact Or.inr rfl)
local macro_rules | `(tactic| walk_at "as") => `(tactic| with_reducible assumption)
local macro_rules | `(tactic| walk_at "e") => `(tactic| first
  | ((with_reducible show G3.WE _ (.Name _ _) _ _ _); first | refine we_nm (by walk_at "as") (by walk_at "at") (by walk_at "vis") (by rfl) ?_ | refine we_tyn (by walk_at "as") (by rfl) (by walk_at "as") (by walk_at "as") ?_ | refine we_cls (C := He.ga _ _) (by walk_at "as") (by rfl) (by walk_at "as") ?_ | refine we_nmH (by walk_at "as") (by walk_at "at") (by walk_at "vis") (by rfl) ?_ | refine we_tynH (by walk_at "as") (by rfl) (by walk_at "as") (by walk_at "as") ?_ | refine we_clsH (C := He.ga _ _) (by walk_at "as") (by rfl) (by walk_at "as") ?_)
  | ((with_reducible show G3.WE _ (.Constant (.int _) _ _) _ _ _); refine we_int ?_)
  | ((with_reducible show G3.WE _ (.Subscript _ (.Slice _ _ (some _) _) _) _ _ _); refine we_rev ?_)
  | ((with_reducible show G3.WE _ (.Subscript _ (.Slice _ _ none _) _) _ _ _); refine we_slice ?_)
  | ((with_reducible show G3.WE _ (.Subscript _ _ _) _ _ _); refine we_ix ?_)
  | ((with_reducible show G3.WE _ (.BinOp _ _ _ _) _ _ _); refine we_op ?_)
  | ((with_reducible show G3.WE _ (.Call (.Name _ _) _ _ _) _ _ _); first
      | refine we_call (by walk_at "as") (by walk_at "as") (by decide) (by rfl) ?_
      | refine we_callB (by walk_at "as") (by rfl) (by walk_at "as") (by walk_at "as") ?_
      | refine we_callTy (by walk_at "as") (by rfl) (by walk_at "as") (by walk_at "as") ?_
      | refine we_callX (by walk_at "as") (by walk_at "as") (by walk_at "as") (by decide) (by rfl) (by walk_at "as") ?_
      | refine we_callBH (by walk_at "as") (by rfl) (by walk_at "as") (by walk_at "as") ?_)
  | ((with_reducible show G3.WE _ (.Attribute _ _ _) _ _ _); first | refine we_fld (by walk_at "as") ?_ | refine we_xfH (by walk_at "as") (by walk_at "as") (by walk_at "as") (by walk_at "as") ?_)
  | ((with_reducible show G3.WE _ (.Tuple _ _ _) _ _ _); refine we_tup ?_)
  | ((with_reducible show G3.WE _ (.List _ _) _ _ _); first | refine we_lstN ?_ | refine we_lst ?_)
  | ((with_reducible show G3.WE _ (.Compare _ [_] _ _) _ _ _); refine we_cmp ?_)
  | ((with_reducible show G3.WE _ (.Compare _ [_, _] _ _) _ _ _); refine we_chain ?_)
  | ((with_reducible show G3.WE _ (.UnaryOp .Not _ _) _ _ _); refine we_not ?_)
  | ((with_reducible show G3.WE _ (.UnaryOp _ _ _) _ _ _); refine we_un ?_)
  | ((with_reducible show G3.WE _ (.IfExp _ _ _ _) _ _ _); refine we_if ?_)
  | ((with_reducible show G3.WE _ (.Constant _ _ _) _ _ _); first | refine we_bl ?_ | refine we_non ?_ | refine we_str ?_)
  | ((with_reducible show G3.WE _ (.JoinedStr (_ :: _ :: _) _) _ _ _); refine we_joined ?_)
  | ((with_reducible show G3.WE _ (.FormattedValue _ _ _ _) _ _ _); refine we_fmt ?_)
  | ((with_reducible show G3.WE _ (.BoolOp _ [_] _) _ _ _); refine we_one ?_)
  | ((with_reducible show G3.WE _ (.BoolOp .And _ _) _ _ _); refine we_and ?_)
  | ((with_reducible show G3.WE _ (.BoolOp .Or _ _) _ _ _); refine we_or ?_))
local macro_rules | `(tactic| walk_at "t") => `(tactic| first
  | ((with_reducible show WT _ (.Compare _ [_] _ _) _ _ _); refine wt_cmp ?_)
  | ((with_reducible show WT _ (.Compare _ [_, _] _ _) _ _ _); refine wt_chain ?_)
  | ((with_reducible show WT _ (.UnaryOp .Not _ _) _ _ _); refine wt_not ?_)
  | ((with_reducible show WT _ (.BoolOp .And _ _) _ _ _); refine wt_w (ww_and ?_))
  | ((with_reducible show WT _ (.BoolOp .Or _ _) _ _ _); refine wt_w (ww_or ?_))
  | refine wt_truth ?_)
local macro_rules | `(tactic| walk_at "w") => `(tactic| first
  | ((with_reducible show WW _ (.BoolOp .And [_] _) _ _ _); refine ww_and1 ?_)
  | ((with_reducible show WW _ (.BoolOp .Or [_] _) _ _ _); refine ww_or1 ?_)
  | ((with_reducible show WW _ (.BoolOp .And _ _) _ _ _); refine ww_and ?_)
  | ((with_reducible show WW _ (.BoolOp .Or _ _) _ _ _); refine ww_or ?_))
local macro_rules | `(tactic| walk_at "st") => `(tactic| first
  | ((with_reducible show WS _ (.Assign [.Name _ _] (.ListComp _ _ _ _) _) _ _ _); fail)
  | ((with_reducible show WS _ (.Assign [.Name _ _] _ _) _ _ _); first | refine ws_set (by walk_at "as") (by walk_at "at") (by walk_at "loc") ?_ | refine ws_setH (by walk_at "as") (by walk_at "at") (by walk_at "loc") ?_)
  | ((with_reducible show WS _ (.Return (some _) _) _ _ _); refine ws_ret ?_)
  | ((with_reducible show WS _ (.If _ _ _ _) _ _ _); refine ws_if ?_)
  | ((with_reducible show WS _ (.Expr (.Call (.Attribute _ "append" _) _ _ _) _) _ _ _); refine ws_append ?_)
  | ((with_reducible show WS _ (.Expr (.Call (.Attribute _ "insert" _) _ _ _) _) _ _ _); refine ws_insert ?_)
  | ((with_reducible show WS _ (.Expr _ _) _ _ _); refine ws_expr ?_)
  | ((with_reducible show WS _ (.Assign [.Tuple _ _ _] (.Tuple _ _ _) _) _ _ _); first
      | refine ws_par2 (by walk_at "as") (by walk_at "at") (by walk_at "at") (by rfl) (by rfl) (by rfl) (by rfl) ?_
      | refine ws_asgT (by walk_at "as") (by rfl) ?_)
  | ((with_reducible show WS _ (.Raise (some _) none _) _ _ _); refine ws_raise (by walk_at "as") (by walk_at "as") ?_)
  | ((with_reducible show WS _ (.Assign [_] _ _) _ _ _); (fail_if_success (with_reducible show WS _ (.Assign [.Attribute _ _ _] _ _) _ _ _)); refine ws_asg ?_)
  | ((with_reducible show WS _ (.Return none _) _ _ _); refine ws_retN ?_)
  | ((with_reducible show WS _ (.Pass _) _ _ _); refine ws_pass ?_)
  | ((with_reducible show WS _ (.Break _) _ _ _); refine ws_break ?_)
  | ((with_reducible show WS _ (.Continue _) _ _ _); refine ws_continue ?_))
local macro_rules | `(tactic| walk_at "mul") => `(tactic| with_unfolding_all first
  | exact cml (by decide) (by decide)
  | exact cmr (by decide) (by decide)
  | exact cmw (by with_reducible assumption) (by with_reducible assumption) (by decide) (by decide) (by decide)
  | exact cml (by omega) (by omega)
  | exact cmr (by omega) (by omega))
local macro_rules | `(tactic| walk_at "o2") => `(tactic| with_reducible first
  | refine o2_add ?_
  | refine o2_sub ?_
  | refine o2_mul (by walk_at "mul") ?_
  | refine o2_lt ?_
  | refine o2_le ?_
  | refine o2_gt ?_
  | refine o2_ge ?_
  | refine o2_eqi ?_
  | refine o2_nei ?_
  | refine o2_eqb ?_
  | refine o2_neb ?_
  | refine o2_eqs ?_
  | refine o2_nes ?_
  | refine o2_isN ?_
  | refine o2_notN ?_)
local macro_rules | `(tactic| walk_at "x") => `(tactic| first
  | ((with_reducible show G3.WE _ _ _ _ _); walk_at "e")
  | ((with_reducible show WA _ _ _ _ _); first | refine wa_cons ?_ | refine wa_nil ?_)
  | ((with_reducible show WMk _ (.Call (.Name _ _) [] _ _) _ _ _); refine wmk_own0 (by walk_at "as") (by walk_at "as") (by decide) (by rfl) ?_)
  | ((with_reducible show WO _ _ _ _ _); first | (show G3.WE _ _ _ _ _))
  | ((with_reducible show WT _ _ _ _ _); walk_at "t")
  | ((with_reducible show G3.WJ _ _ _ _ _ _); first | refine wj_cons ?_ | refine wj_nil ?_)
  | ((with_reducible show G3.WK _ _ _ _ _); first | refine wk_cons ?_ | refine wk_nil ?_)
  | ((with_reducible show WW _ _ _ _ _); walk_at "w")
  | ((with_reducible show WS _ _ _ _ _); walk_at "st")
  | ((with_reducible show O2 _ _ _ _ _ _); walk_at "o2")
  | ((with_reducible show OI _ (.tup _) _ _ _); refine oi_tup rfl ?_)
  | ((with_reducible show OC _ _ _ _ _); with_reducible first | refine oc_abs ?_ | refine oc_int ?_ | refine oc_intb ?_ | refine oc_lenT ?_)
  | ((with_reducible show O1 _ _ _ _ _); refine o1_neg ?_)
  | ((with_reducible show BQ _ _ _); refine ⟨_, rfl, ?_⟩)
  | ((with_reducible show WG _ _ _ _ _ _); first | refine wg_name (by walk_at "as") (by walk_at "at") (by walk_at "loc") ?_ | refine wg_tup (by walk_at "as") ?_)
  | ((with_reducible show WGs _ _ _ _ _ _); first | refine wgs_cons (by walk_at "as") (by walk_at "at") (by walk_at "loc") ?_ | refine wgs_nil ?_))
local macro_rules | `(tactic| walk_at "s") => `(tactic| first
  | walk_at "x"
  | ((with_reducible show WSs _ _ _ _ _); first | refine wss_cons ?_ | refine wss_nil ?_))
theorem df_common {E : Ev} (hAbs : E.mg "abs" = none) (T : Tx E "common" (top 5) ["one", "other"]) : E.df 1 "common" ["one", "other"] spCommon := by
  refine T.df ["one", "other"] ⟨rfl, rfl, rfl, by decide +kernel, rfl, by decide +kernel, by decide +kernel⟩ (fun ws M Q ⟨a, b, e, _⟩ => by rw [e]; rfl) fun X B ws M Q ⟨a, b, e, q⟩ => ?_
  subst e
  show WSs X _ [some (.int a), some (.int b)] M _
  have bA := bb_abs
  repeat (walk_at "s")
  refine ⟨_, _, rfl, ?_⟩
  show WSs X _ [some (.int a.natAbs), some (.int b.natAbs)] M _
  walk_at "s"
  refine ws_while B (fun n σ M' => ∃ x y : Nat, σ = [some (.int x), some (.int y)] ∧ M' = M ∧ Nat.gcd x y = Int.gcd a b ∧ y = n) b.natAbs ⟨_, _, rfl, rfl, rfl, rfl⟩ ?_
  rintro n σ M' ⟨x, y, rfl, rfl, hg, rfl⟩
  repeat (walk_at "s")
  refine ite_dec (fun hy => ?_) (fun hy => ?_)
  · have hy' : 0 < y := by omega
    repeat (walk_at "s")
    refine o2_mod (by omega) ?_
    repeat (walk_at "s")
    refine ⟨_, _, rfl, ?_⟩
    repeat (walk_at "s")
    refine ⟨x % y, Nat.mod_lt _ hy', y, x % y, rfl, rfl, (gcd_step x y).trans hg, rfl⟩
  · have hy' : y = 0 := by omega
    subst hy'
    repeat (walk_at "s")
    refine ⟨M', LeM.refl, ?_⟩
    rw [Nat.gcd_zero_right] at hg
    rw [hg]; exact q
theorem df_ratio {E : Ev} (D1 : E.df 1 "common" ["one", "other"] spCommon) (T : Tx E "ratio" (top 6) ["over", "under"]) : E.df 2 "ratio" ["over", "under"] spRat := by
  refine T.df ["over", "under", "part"] ⟨rfl, rfl, rfl, by decide +kernel, rfl, by decide +kernel, by decide +kernel⟩ (fun ws M Q ⟨a, b, e, _⟩ => by rw [e]; rfl) fun X B ws M Q ⟨a, b, e, hb, hz, q⟩ => ?_
  subst e
  show WSs X _ [some (.int a), some (.int b), none] M _
  repeat (walk_at "s")
  refine ite_no (by simpa using hb) ?_
  repeat (walk_at "s")
  refine ⟨a, b, rfl, ?_⟩
  repeat (walk_at "s")
  have gb := gcd_bits (a := a) hb hz
  have gn := gcd_ne (a := a) hb
  refine ite_dec (fun h => ?_) (fun h => ?_)
  · repeat (walk_at "s")
    refine o2_fdiv (cdv (by omega) (by rw [Int.natAbs_neg]; exact gb) (by decide) (by decide)) ?_
    repeat (walk_at "s")
    refine o2_fdiv (cdv (by omega) (by rw [Int.natAbs_neg]; exact gb) (by decide) (by decide)) ?_
    repeat (walk_at "s")
    refine ⟨by show 2 ≤ sizeLine; decide, M, LeM.refl, ?_⟩
    rw [nrm_neg h] at q
    exact q
  · repeat (walk_at "s")
    refine o2_fdiv (cdv gn gb (by decide) (by decide)) ?_
    repeat (walk_at "s")
    refine o2_fdiv (cdv gn gb (by decide) (by decide)) ?_
    repeat (walk_at "s")
    refine ⟨by show 2 ≤ sizeLine; decide, M, LeM.refl, ?_⟩
    rw [nrm_nn h] at q
    exact q
theorem df_plus {E : Ev} (D1 : E.df 2 "ratio" ["over", "under"] spRat) (T : Tx E "plus" (top 7) ["one", "other"]) : E.df 3 "plus" ["one", "other"] (spBin rsum) := by
  refine T.df ["one", "other"] ⟨rfl, rfl, rfl, by decide +kernel, rfl, by decide +kernel, by decide +kernel⟩ (fun ws M Q ⟨a, b, e, _⟩ => by rw [e]; rfl) fun X B ws M Q ⟨p, r, e, hp, hr, q⟩ => ?_
  subst e
  have p1 := hp.n1
  have p2 := hp.n2
  have r1 := hr.n1
  have r2 := hr.n2
  show WSs X _ [some (vr p), some (vr r)] M _
  repeat (walk_at "s")
  exact ⟨_, _, rfl, mul_ne hp.pos hr.pos, big_mul p2 r2, M, LeM.refl, q⟩
theorem df_minus {E : Ev} (D1 : E.df 2 "ratio" ["over", "under"] spRat) (T : Tx E "minus" (top 8) ["one", "other"]) : E.df 3 "minus" ["one", "other"] (spBin rdif) := by
  refine T.df ["one", "other"] ⟨rfl, rfl, rfl, by decide +kernel, rfl, by decide +kernel, by decide +kernel⟩ (fun ws M Q ⟨a, b, e, _⟩ => by rw [e]; rfl) fun X B ws M Q ⟨p, r, e, hp, hr, q⟩ => ?_
  subst e
  have p1 := hp.n1
  have p2 := hp.n2
  have r1 := hr.n1
  have r2 := hr.n2
  show WSs X _ [some (vr p), some (vr r)] M _
  repeat (walk_at "s")
  exact ⟨_, _, rfl, mul_ne hp.pos hr.pos, big_mul p2 r2, M, LeM.refl, q⟩
theorem df_times {E : Ev} (D1 : E.df 2 "ratio" ["over", "under"] spRat) (T : Tx E "times" (top 9) ["one", "other"]) : E.df 3 "times" ["one", "other"] (spBin rprod) := by
  refine T.df ["one", "other"] ⟨rfl, rfl, rfl, by decide +kernel, rfl, by decide +kernel, by decide +kernel⟩ (fun ws M Q ⟨a, b, e, _⟩ => by rw [e]; rfl) fun X B ws M Q ⟨p, r, e, hp, hr, q⟩ => ?_
  subst e
  have p1 := hp.n1
  have p2 := hp.n2
  have r1 := hr.n1
  have r2 := hr.n2
  show WSs X _ [some (vr p), some (vr r)] M _
  repeat (walk_at "s")
  exact ⟨_, _, rfl, mul_ne hp.pos hr.pos, big_mul p2 r2, M, LeM.refl, q⟩
theorem df_divided {E : Ev} (D1 : E.df 2 "ratio" ["over", "under"] spRat) (T : Tx E "divided" (top 10) ["one", "other"]) : E.df 3 "divided" ["one", "other"] spQuo := by
  refine T.df ["one", "other"] ⟨rfl, rfl, rfl, by decide +kernel, rfl, by decide +kernel, by decide +kernel⟩ (fun ws M Q ⟨a, b, e, _⟩ => by rw [e]; rfl) fun X B ws M Q ⟨p, r, e, hp, hr, hn, q⟩ => ?_
  subst e
  have p1 := hp.n1
  have p2 := hp.n2
  have r1 := hr.n1
  have r2 := hr.n2
  show WSs X _ [some (vr p), some (vr r)] M _
  repeat (walk_at "s")
  refine ite_no (by simpa using hn) ?_
  repeat (walk_at "s")
  exact ⟨_, _, rfl, (by intro z; rcases Int.mul_eq_zero.mp z with z | z; · have := hp.pos; omega
                        · exact hn z), big_mul p2 r1, M, LeM.refl, q⟩
theorem df_order {E : Ev} (T : Tx E "order" (top 11) ["one", "other"]) : E.df 1 "order" ["one", "other"] spOrd := by
  refine T.df ["one", "other", "away"] ⟨rfl, rfl, rfl, by decide +kernel, rfl, by decide +kernel, by decide +kernel⟩ (fun ws M Q ⟨a, b, e, _⟩ => by rw [e]; rfl) fun X B ws M Q ⟨p, r, e, hp, hr, q⟩ => ?_
  subst e
  have p1 := hp.n1
  have p2 := hp.n2
  have r1 := hr.n1
  have r2 := hr.n2
  show WSs X _ [some (vr p), some (vr r), none] M _
  repeat (walk_at "s")
  refine ite_dec (fun h => ?_) (fun h => ?_)
  · repeat (walk_at "s")
    rw [if_pos (show rcomp p r = 0 from h)] at q
    exact ⟨M, LeM.refl, q⟩
  · repeat (walk_at "s")
    rw [if_neg (show ¬ rcomp p r = 0 from h)] at q
    refine ite_dec (fun h2 => ?_) (fun h2 => ?_)
    · repeat (walk_at "s")
      rw [if_pos (show 0 < rcomp p r from h2)] at q
      exact ⟨M, LeM.refl, q⟩
    · repeat (walk_at "s")
      rw [if_neg (show ¬ 0 < rcomp p r from h2)] at q
      exact ⟨M, LeM.refl, q⟩
theorem df_less {E : Ev} (D1 : E.df 1 "order" ["one", "other"] spOrd) (T : Tx E "less" (top 12) ["one", "other"]) : E.df 2 "less" ["one", "other"] spLess := by
  refine T.df ["one", "other"] ⟨rfl, rfl, rfl, by decide +kernel, rfl, by decide +kernel, by decide +kernel⟩ (fun ws M Q ⟨a, b, e, _⟩ => by rw [e]; rfl) fun X B ws M Q ⟨p, r, e, hp, hr, q⟩ => ?_
  subst e
  show WSs X _ [some (vr p), some (vr r)] M _
  repeat (walk_at "s")
  refine ⟨p, r, rfl, hp, hr, ?_⟩
  repeat (walk_at "s")
  refine ⟨M, LeM.refl, ?_⟩
  have e : decide ((if rcomp p r = 0 then (0 : Int) else if 0 < rcomp p r then 1 else -1) < 0) = decide (rcomp p r < 0) := by
    refine decide_eq_decide.mpr ?_
    split
    · omega
    · split <;> omega
  rw [e]; exact q
theorem df_size {E : Ev} (hAbs : E.mg "abs" = none) (T : Tx E "size" (top 13) ["one"]) : E.df 1 "size" ["one"] spSize := by
  refine T.df ["one"] ⟨rfl, rfl, rfl, by decide +kernel, rfl, by decide +kernel, by decide +kernel⟩ (fun ws M Q ⟨a, e, _⟩ => by rw [e]; rfl) fun X B ws M Q ⟨p, e, q⟩ => ?_
  subst e
  have bA := bb_abs
  show WSs X _ [some (vr p)] M _
  repeat (walk_at "s")
  exact ⟨by show 2 ≤ sizeLine; decide, M, LeM.refl, q⟩
end G3

set_option Elab.async false
set_option linter.all false
set_option maxRecDepth 100000
set_option maxHeartbeats 4000000
set_option pp.maxSteps 1000
namespace G3
open PySem PySem.Spec L2
local macro_rules | `(tactic| walk_at "at") => `(tactic| with_reducible (repeat (first | exact At.here | apply At.there)))
local macro_rules | `(tactic| walk_at "vis") => `(tactic| first | exact Or.inl rfl | exact Or.inr (Or.inl rfl) | exact Or.inr (Or.inr rfl))
local macro_rules | `(tactic| walk_at "loc") => `(tactic| first | exact Or.inl rfl | exact Or.inr rfl)
local macro_rules | `(tactic| walk_at "as") => `(tactic| with_reducible assumption)
local macro_rules | `(tactic| walk_at "e") => `(tactic| first
  | ((with_reducible show G3.WE _ (.Name _ _) _ _ _); first | refine we_nm (by walk_at "as") (by walk_at "at") (by walk_at "vis") (by rfl) ?_ | refine we_tyn (by walk_at "as") (by rfl) (by walk_at "as") (by walk_at "as") ?_ | refine we_cls (C := He.ga _ _) (by walk_at "as") (by rfl) (by walk_at "as") ?_ | refine we_nmH (by walk_at "as") (by walk_at "at") (by walk_at "vis") (by rfl) ?_ | refine we_tynH (by walk_at "as") (by rfl) (by walk_at "as") (by walk_at "as") ?_ | refine we_clsH (C := He.ga _ _) (by walk_at "as") (by rfl) (by walk_at "as") ?_)
  | ((with_reducible show G3.WE _ (.Constant (.int _) _ _) _ _ _); refine we_int ?_)
  | ((with_reducible show G3.WE _ (.Subscript _ (.Slice _ _ (some _) _) _) _ _ _); refine we_rev ?_)
  | ((with_reducible show G3.WE _ (.Subscript _ (.Slice _ _ none _) _) _ _ _); refine we_slice ?_)
  | ((with_reducible show G3.WE _ (.Subscript _ _ _) _ _ _); refine we_ix ?_)
  | ((with_reducible show G3.WE _ (.BinOp _ _ _ _) _ _ _); refine we_op ?_)
  | ((with_reducible show G3.WE _ (.Call (.Name _ _) _ _ _) _ _ _); first
      | refine we_call (by walk_at "as") (by walk_at "as") (by decide) (by rfl) ?_
      | refine we_callB (by walk_at "as") (by rfl) (by walk_at "as") (by walk_at "as") ?_
      | refine we_callTy (by walk_at "as") (by rfl) (by walk_at "as") (by walk_at "as") ?_
      | refine we_callX (by walk_at "as") (by walk_at "as") (by walk_at "as") (by decide) (by rfl) (by walk_at "as") ?_
      | refine we_callBH (by walk_at "as") (by rfl) (by walk_at "as") (by walk_at "as") ?_)
  | ((with_reducible show G3.WE _ (.Attribute _ _ _) _ _ _); first | refine we_fld (by walk_at "as") ?_ | refine we_xfH (by walk_at "as") (by walk_at "as") (by walk_at "as") (by walk_at "as") ?_)
  | ((with_reducible show G3.WE _ (.Tuple _ _ _) _ _ _); refine we_tup ?_)
  | ((with_reducible show G3.WE _ (.List _ _) _ _ _); first | refine we_lstN ?_ | refine we_lst ?_)
  | ((with_reducible show G3.WE _ (.Compare _ [_] _ _) _ _ _); refine we_cmp ?_)
  | ((with_reducible show G3.WE _ (.Compare _ [_, _] _ _) _ _ _); refine we_chain ?_)
  | ((with_reducible show G3.WE _ (.UnaryOp .Not _ _) _ _ _); refine we_not ?_)
  | ((with_reducible show G3.WE _ (.UnaryOp _ _ _) _ _ _); refine we_un ?_)
  | ((with_reducible show G3.WE _ (.IfExp _ _ _ _) _ _ _); refine we_if ?_)
  | ((with_reducible show G3.WE _ (.Constant _ _ _) _ _ _); first | refine we_bl ?_ | refine we_non ?_ | refine we_str ?_)
  | ((with_reducible show G3.WE _ (.JoinedStr (_ :: _ :: _) _) _ _ _); refine we_joined ?_)
  | ((with_reducible show G3.WE _ (.FormattedValue _ _ _ _) _ _ _); refine we_fmt ?_)
  | ((with_reducible show G3.WE _ (.BoolOp _ [_] _) _ _ _); refine we_one ?_)
  | ((with_reducible show G3.WE _ (.BoolOp .And _ _) _ _ _); refine we_and ?_)
  | ((with_reducible show G3.WE _ (.BoolOp .Or _ _) _ _ _); refine we_or ?_))
local macro_rules | `(tactic| walk_at "t") => `(tactic| first
  | ((with_reducible show WT _ (.Compare _ [_] _ _) _ _ _); refine wt_cmp ?_)
  | ((with_reducible show WT _ (.Compare _ [_, _] _ _) _ _ _); refine wt_chain ?_)
  | ((with_reducible show WT _ (.UnaryOp .Not _ _) _ _ _); refine wt_not ?_)
  | ((with_reducible show WT _ (.BoolOp .And _ _) _ _ _); refine wt_w (ww_and ?_))
  | ((with_reducible show WT _ (.BoolOp .Or _ _) _ _ _); refine wt_w (ww_or ?_))
  | refine wt_truth ?_)
local macro_rules | `(tactic| walk_at "w") => `(tactic| first
  | ((with_reducible show WW _ (.BoolOp .And [_] _) _ _ _); refine ww_and1 ?_)
  | ((with_reducible show WW _ (.BoolOp .Or [_] _) _ _ _); refine ww_or1 ?_)
  | ((with_reducible show WW _ (.BoolOp .And _ _) _ _ _); refine ww_and ?_)
  | ((with_reducible show WW _ (.BoolOp .Or _ _) _ _ _); refine ww_or ?_))
local macro_rules | `(tactic| walk_at "st") => `(tactic| first
  | ((with_reducible show WS _ (.Assign [.Name _ _] (.ListComp _ _ _ _) _) _ _ _); fail)
  | ((with_reducible show WS _ (.Assign [.Name _ _] _ _) _ _ _); first | refine ws_set (by walk_at "as") (by walk_at "at") (by walk_at "loc") ?_ | refine ws_setH (by walk_at "as") (by walk_at "at") (by walk_at "loc") ?_)
  | ((with_reducible show WS _ (.Return (some _) _) _ _ _); refine ws_ret ?_)
  | ((with_reducible show WS _ (.If _ _ _ _) _ _ _); refine ws_if ?_)
  | ((with_reducible show WS _ (.Expr (.Call (.Attribute _ "append" _) _ _ _) _) _ _ _); refine ws_append ?_)
  | ((with_reducible show WS _ (.Expr (.Call (.Attribute _ "insert" _) _ _ _) _) _ _ _); refine ws_insert ?_)
  | ((with_reducible show WS _ (.Expr _ _) _ _ _); refine ws_expr ?_)
  | ((with_reducible show WS _ (.Assign [.Tuple _ _ _] (.Tuple _ _ _) _) _ _ _); first
      | refine ws_par2 (by walk_at "as") (by walk_at "at") (by walk_at "at") (by rfl) (by rfl) (by rfl) (by rfl) ?_
      | refine ws_asgT (by walk_at "as") (by rfl) ?_)
  | ((with_reducible show WS _ (.Raise (some _) none _) _ _ _); refine ws_raise (by walk_at "as") (by walk_at "as") ?_)
  | ((with_reducible show WS _ (.Assign [_] _ _) _ _ _); (fail_if_success (with_reducible show WS _ (.Assign [.Attribute _ _ _] _ _) _ _ _)); refine ws_asg ?_)
  | ((with_reducible show WS _ (.Return none _) _ _ _); refine ws_retN ?_)
  | ((with_reducible show WS _ (.Pass _) _ _ _); refine ws_pass ?_)
  | ((with_reducible show WS _ (.Break _) _ _ _); refine ws_break ?_)
  | ((with_reducible show WS _ (.Continue _) _ _ _); refine ws_continue ?_))
local macro_rules | `(tactic| walk_at "mul") => `(tactic| with_unfolding_all first
  | exact cml (by decide) (by decide)
  | exact cmr (by decide) (by decide)
  | exact cmw (by with_reducible assumption) (by with_reducible assumption) (by decide) (by decide) (by decide)
  | exact cml (by omega) (by omega)
  | exact cmr (by omega) (by omega))
local macro_rules | `(tactic| walk_at "o2") => `(tactic| with_reducible first
  | refine o2_add ?_
  | refine o2_sub ?_
  | refine o2_mul (by walk_at "mul") ?_
  | refine o2_lt ?_
  | refine o2_le ?_
  | refine o2_gt ?_
  | refine o2_ge ?_
  | refine o2_eqi ?_
  | refine o2_nei ?_
  | refine o2_eqb ?_
  | refine o2_neb ?_
  | refine o2_eqs ?_
  | refine o2_nes ?_
  | refine o2_isN ?_
  | refine o2_notN ?_)
local macro_rules | `(tactic| walk_at "x") => `(tactic| first
  | ((with_reducible show G3.WE _ _ _ _ _); walk_at "e")
  | ((with_reducible show WA _ _ _ _ _); first | refine wa_cons ?_ | refine wa_nil ?_)
  | ((with_reducible show WMk _ (.Call (.Name _ _) [] _ _) _ _ _); refine wmk_own0 (by walk_at "as") (by walk_at "as") (by decide) (by rfl) ?_)
  | ((with_reducible show WO _ _ _ _ _); first | (show G3.WE _ _ _ _ _))
  | ((with_reducible show WT _ _ _ _ _); walk_at "t")
  | ((with_reducible show G3.WJ _ _ _ _ _ _); first | refine wj_cons ?_ | refine wj_nil ?_)
  | ((with_reducible show G3.WK _ _ _ _ _); first | refine wk_cons ?_ | refine wk_nil ?_)
  | ((with_reducible show WW _ _ _ _ _); walk_at "w")
  | ((with_reducible show WS _ _ _ _ _); walk_at "st")
  | ((with_reducible show O2 _ _ _ _ _ _); walk_at "o2")
  | ((with_reducible show OI _ (.tup _) _ _ _); refine oi_tup rfl ?_)
  | ((with_reducible show OC _ _ _ _ _); with_reducible first | refine oc_abs ?_ | refine oc_int ?_ | refine oc_intb ?_ | refine oc_lenT ?_)
  | ((with_reducible show O1 _ _ _ _ _); refine o1_neg ?_)
  | ((with_reducible show BQ _ _ _); refine ⟨_, rfl, ?_⟩)
  | ((with_reducible show WG _ _ _ _ _ _); first | refine wg_name (by walk_at "as") (by walk_at "at") (by walk_at "loc") ?_ | refine wg_tup (by walk_at "as") ?_)
  | ((with_reducible show WGs _ _ _ _ _ _); first | refine wgs_cons (by walk_at "as") (by walk_at "at") (by walk_at "loc") ?_ | refine wgs_nil ?_))
local macro_rules | `(tactic| walk_at "s") => `(tactic| first
  | walk_at "x"
  | ((with_reducible show WSs _ _ _ _ _); first | refine wss_cons ?_ | refine wss_nil ?_))
theorem df_on_way {E : Ev} (D1 : E.df 3 "plus" ["one", "other"] (spBin rsum)) (D2 : E.df 3 "minus" ["one", "other"] (spBin rdif)) (D3 : E.df 3 "times" ["one", "other"] (spBin rprod))
    (T : Tx E "on_way" (top 16) ["one", "other", "share"]) : E.df 4 "on_way" ["one", "other", "share"] spOn := by
  refine T.df ["one", "other", "share", "x", "y"] ⟨rfl, rfl, rfl, by decide +kernel, rfl, by decide +kernel, by decide +kernel⟩ (fun ws M Q ⟨a, b, c, e, _⟩ => by rw [e]; rfl) fun X B ws M Q ⟨a, b, t, e, ha, hb, ht, q⟩ => ?_
  subst e
  show WSs X _ [some (vsp a), some (vsp b), some (vr t), none, none] M _
  repeat (walk_at "s")
  refine ⟨_, _, rfl, hb.x.big, ha.x.big, ?_⟩
  repeat (walk_at "s")
  refine ⟨_, _, rfl, ht.big, (hb.x.dif ha.x).big, ?_⟩
  repeat (walk_at "s")
  refine ⟨_, _, rfl, ha.x.big, (ht.prod (hb.x.dif ha.x)).big, ?_⟩
  repeat (walk_at "s")
  refine ⟨_, _, rfl, hb.y.big, ha.y.big, ?_⟩
  repeat (walk_at "s")
  refine ⟨_, _, rfl, ht.big, (hb.y.dif ha.y).big, ?_⟩
  repeat (walk_at "s")
  refine ⟨_, _, rfl, ha.y.big, (ht.prod (hb.y.dif ha.y)).big, ?_⟩
  repeat (walk_at "s")
  exact ⟨by show 2 ≤ sizeLine; decide, M, LeM.refl, q⟩
theorem df_least {E : Ev} (D1 : E.df 2 "less" ["one", "other"] spLess) (T : Tx E "least" (top 14) ["some"]) : E.df 3 "least" ["some"] spLeast := by
  refine T.df ["some", "found", "others", "one"] ⟨rfl, rfl, rfl, by decide +kernel, rfl, by decide +kernel, by decide +kernel⟩ (fun ws M Q ⟨a, b, e, _⟩ => by rw [e]; rfl) fun X B ws M Q ⟨w, xs, e, hl, hne, hb, hz, q⟩ => ?_
  subst e
  show WSs X _ [some w, none, none, none] M _
  cases xs with
  | nil => exact absurd rfl hne
  | cons x xs =>
  have hz' : xs.length + 1 ≤ 1000 := hz
  refine wss_cons ?_
  refine ws_star B (by walk_at "at") (by walk_at "loc") (by walk_at "at") (by walk_at "loc") ?_
  repeat (walk_at "s")
  refine ⟨vr x, xs.map vr, hl, by rw [List.length_map]; omega, fun p np => ?_⟩
  repeat (walk_at "s")
  refine ws_forLst B ?_
  repeat (walk_at "s")
  refine ⟨xs.map vr, .ref updM_same, fun i σ M' => ∃ (f : Rt) (z : Option VV), LeM (updM M p (.lst (xs.map vr))) M' ∧ RB BIG f ∧ f = (xs.take i).foldl (fun f o => if rcomp o f < 0 then o else f) x ∧ σ = [some w, some (vr f), some (.ref p), z],
    ⟨x, _, LeM.refl, hb x (by simp), rfl, rfl⟩, fun i σ M' _ ⟨_, _, l, _⟩ => .ref (l _ _ updM_same), ?_, ?_⟩
  · rintro i u σ M' hi hu ⟨f, z, l, hf, ef, rfl⟩
    rw [List.getElem?_map] at hu
    obtain ⟨o, ho, rfl⟩ := Option.map_eq_some_iff.mp hu
    have hbo := hb o (List.mem_cons_of_mem _ (List.mem_of_getElem? ho))
    have et : (xs.take (i + 1)).foldl (fun f o => if rcomp o f < 0 then o else f) x = if rcomp o f < 0 then o else f := by
      rw [List.take_add_one, ho, List.foldl_append, ← ef]; rfl
    walk_at "s"
    walk_at "s"
    repeat (walk_at "s")
    refine ⟨o, f, rfl, hbo, hf, _, .bl _, ?_⟩
    refine ite_dec (fun c => ?_) (fun c => ?_)
    · repeat (walk_at "s")
      exact ⟨o, _, l, hbo, by rw [et, if_pos c], rfl⟩
    · repeat (walk_at "s")
      exact ⟨f, _, l, hf, by rw [et, if_neg c], rfl⟩
  · rintro σ M' ⟨f, z, l, hf, ef, rfl⟩
    rw [List.length_map, List.take_length] at ef
    repeat (walk_at "s")
    refine ⟨M, (LeM.new np).trans l, ?_⟩
    rw [ef]; exact q
theorem df_apart_of {E : Ev} (D1 : E.df 1 "size" ["one"] spSize) (D2 : E.df 3 "minus" ["one", "other"] (spBin rdif)) (D3 : E.df 2 "less" ["one", "other"] spLess) (T : Tx E "apart_of" (top 15) ["one", "other"]) : E.df 4 "apart_of" ["one", "other"] spApartOf := by
  refine T.df ["one", "other", "across", "up"] ⟨rfl, rfl, rfl, by decide +kernel, rfl, by decide +kernel, by decide +kernel⟩ (fun ws M Q ⟨a, b, e, _⟩ => by rw [e]; rfl) fun X B ws M Q ⟨a, b, e, ha, hb, q⟩ => ?_
  subst e
  show WSs X _ [some (vsp a), some (vsp b), none, none] M _
  repeat (walk_at "s")
  refine ⟨_, _, rfl, ha.x.big, hb.x.big, ?_⟩
  repeat (walk_at "s")
  refine ⟨_, rfl, ?_⟩
  repeat (walk_at "s")
  refine ⟨_, _, rfl, ha.y.big, hb.y.big, ?_⟩
  repeat (walk_at "s")
  refine ⟨_, rfl, ?_⟩
  repeat (walk_at "s")
  refine ⟨_, _, rfl, (ha.x.dif hb.x).abs.big, (ha.y.dif hb.y).abs.big, _, .bl _, ?_⟩
  unfold apartOf at q
  refine ite_dec (fun c => ?_) (fun c => ?_)
  · rw [if_pos c] at q
    repeat (walk_at "s")
    exact ⟨M, LeM.refl, q⟩
  · rw [if_neg c] at q
    repeat (walk_at "s")
    exact ⟨M, LeM.refl, q⟩
theorem df_crossings {E : Ev} (hN : ∃ a, E.mg "NOUGHT" = some (.ref a) ∧ ∀ H, Rv E.K H (.ref a) (vr (0, 1))) (D2 : E.df 3 "minus" ["one", "other"] (spBin rdif)) (D3 : E.df 3 "divided" ["one", "other"] spQuo)
    (T : Tx E "crossings" (top 19) ["start", "far"]) : E.df 4 "crossings" ["start", "far"] spCross := by
  refine T.df ["start", "far"] ⟨rfl, rfl, rfl, by decide +kernel, rfl, by decide +kernel, by decide +kernel⟩ (fun ws M Q ⟨a, b, e, _⟩ => by rw [e]; rfl) fun X B ws M Q ⟨s, f, e, hs, hf, hz, q⟩ => ?_
  subst e
  show WSs X _ [some (vr s), some (vr f)] M _
  obtain ⟨aN, mN, rN⟩ := hN
  unfold crossF at q
  repeat (walk_at "s")
  refine we_glr B rfl mN rN ?_
  refine o2_eqRt B.room.units ?_
  repeat (walk_at "s")
  refine ite_dec (fun h => ?_) (fun h => ?_)
  · rw [if_pos h] at q
    repeat (walk_at "s")
    refine ⟨by show 0 ≤ sizeLine; decide, fun p np => ?_⟩
    exact ⟨_, LeM.refl, q p np⟩
  · rw [if_neg h] at q
    repeat (walk_at "s")
    refine we_glr B rfl mN rN ?_
    repeat (walk_at "s")
    refine ⟨_, _, rfl, RB.zero.big, hs.big, ?_⟩
    repeat (walk_at "s")
    refine ⟨_, _, rfl, (RB.zero.dif hs).big, hf.big, fun z => h (hz z), ?_⟩
    repeat (walk_at "s")
    refine ⟨by show 1 ≤ sizeLine; decide, fun p np => ?_⟩
    exact ⟨_, LeM.refl, q p np⟩
theorem df_to_piece {E : Ev} (hN : ∃ a, E.mg "NOUGHT" = some (.ref a) ∧ ∀ H, Rv E.K H (.ref a) (vr (0, 1))) (hO : ∃ a, E.mg "ONE" = some (.ref a) ∧ ∀ H, Rv E.K H (.ref a) (vr (1, 1))) (D1 : E.df 3 "least" ["some"] spLeast) (D2 : E.df 3 "minus" ["one", "other"] (spBin rdif)) (D3 : E.df 3 "plus" ["one", "other"] (spBin rsum)) (D4 : E.df 4 "crossings" ["start", "far"] spCross) (D5 : E.df 2 "less" ["one", "other"] spLess) (D6 : E.df 4 "apart_of" ["one", "other"] spApartOf) (D7 : E.df 4 "on_way" ["one", "other", "share"] spOn)
    (T : Tx E "to_piece" (top 20) ["spot", "one", "other"]) : E.df 5 "to_piece" ["spot", "one", "other"] spToPiece := by
  refine T.df ["spot", "one", "other", "x", "y", "across", "up", "shares", "share", "good"] ⟨rfl, rfl, rfl, by decide +kernel, rfl, by decide +kernel, by decide +kernel⟩ (fun ws M Q ⟨a, b, c, e, _⟩ => by rw [e]; rfl) fun X B ws M Q ⟨s, a, b, e, hs, ha, hb, q⟩ => ?_
  subst e
  show WSs X _ [some (vsp s), some (vsp a), some (vsp b), none, none, none, none, none, none, none] M _
  obtain ⟨aN, mN, rN⟩ := hN
  obtain ⟨aO, mO, rO⟩ := hO
  have x1 := ha.x.dif hs.x
  have y1 := ha.y.dif hs.y
  have A1 := hb.x.dif ha.x
  have U1 := hb.y.dif ha.y
  repeat (walk_at "s")
  refine ⟨_, _, rfl, ha.x.big, hs.x.big, ?_⟩
  repeat (walk_at "s")
  refine ⟨_, _, rfl, ha.y.big, hs.y.big, ?_⟩
  repeat (walk_at "s")
  refine ⟨_, _, rfl, ?_⟩
  repeat (walk_at "s")
  refine ⟨_, _, rfl, hb.x.big, ha.x.big, ?_⟩
  repeat (walk_at "s")
  refine ⟨_, _, rfl, hb.y.big, ha.y.big, ?_⟩
  repeat (walk_at "s")
  refine ⟨_, _, rfl, ?_⟩
  repeat (walk_at "s")
  refine we_glr B rfl mN rN ?_
  repeat (walk_at "s")
  refine we_glr B rfl mO rO ?_
  repeat (walk_at "s")
  refine ⟨by show 2 ≤ sizeLine; decide, fun p1 n1 => ?_⟩
  repeat (walk_at "s")
  refine ⟨_, _, rfl, x1.mono (by decide), A1.mono (by decide), (rdif_zero hb.x.pos ha.x.pos).mpr, fun p2 n2 => ?_⟩
  have cl := @crossF_len
  have c1 := cl (s := rdif a.1 s.1) (f := rdif b.1 a.1)
  have c2 := cl (s := rdif a.2 s.2) (f := rdif b.2 a.2)
  have c3 := cl (s := rdif (rdif a.1 s.1) (rdif a.2 s.2)) (f := rdif (rdif b.1 a.1) (rdif b.2 a.2))
  have sl := shares_len (s := s) (a := a) (b := b)
  refine o2_catM (v := vr) [((0 : Int), (1 : Int)), (1, 1)] (crossF (rdif a.1 s.1) (rdif b.1 a.1)) ((LeM.new n2) _ _ updM_same) updM_same (by show 2 + _ ≤ _; omega) fun p3 M3 l3 g3 => ?_
  replace l3 := (LeM.new n1).trans ((LeM.new n2).trans l3)
  repeat (walk_at "s")
  refine ⟨_, _, rfl, y1.mono (by decide), U1.mono (by decide), (rdif_zero hb.y.pos ha.y.pos).mpr, fun p4 n4 => ?_⟩
  refine o2_catM (v := vr) _ (crossF (rdif a.2 s.2) (rdif b.2 a.2)) ((LeM.new n4) _ _ g3) updM_same (by rw [List.length_append]; show 2 + _ + _ ≤ _; omega) fun p5 M5 l5 g5 => ?_
  replace l5 := l3.trans ((LeM.new n4).trans l5)
  repeat (walk_at "s")
  refine ⟨_, _, rfl, x1.big, y1.big, ?_⟩
  repeat (walk_at "s")
  refine ⟨_, _, rfl, A1.big, U1.big, ?_⟩
  repeat (walk_at "s")
  refine ⟨_, _, rfl, (x1.dif y1).mono (by decide), (A1.dif U1).mono (by decide), (rdif_zero A1.pos U1.pos).mpr, fun p6 n6 => ?_⟩
  refine o2_catM (v := vr) _ (crossF (rdif (rdif a.1 s.1) (rdif a.2 s.2)) (rdif (rdif b.1 a.1) (rdif b.2 a.2))) ((LeM.new n6) _ _ g5) updM_same (by rw [List.length_append, List.length_append]; show 2 + _ + _ + _ ≤ _; omega) fun p7 M7 l7 g7 => ?_
  replace l7 := l5.trans ((LeM.new n6).trans l7)
  repeat (walk_at "s")
  refine ⟨_, _, rfl, x1.big, y1.big, ?_⟩
  repeat (walk_at "s")
  refine ⟨_, _, rfl, A1.big, U1.big, ?_⟩
  repeat (walk_at "s")
  refine ⟨_, _, rfl, (x1.sum y1).mono (by decide), (A1.sum U1).mono (by decide), rsum_zero A1.pos U1.pos, fun p8 n8 => ?_⟩
  refine o2_catM (v := vr) _ (crossF (rsum (rdif a.1 s.1) (rdif a.2 s.2)) (rsum (rdif b.1 a.1) (rdif b.2 a.2))) ((LeM.new n8) _ _ g7) updM_same (by unfold sharesF at sl; rw [List.length_append] at sl; omega) fun p9 M9 l9 g9 => ?_
  replace l9 := l7.trans ((LeM.new n8).trans l9)
  change M9 p9 = some (.lst ((sharesF s a b).map vr)) at g9
  clear g3 l3 g5 l5 g7 l7
  have sbt := shares_bits hs ha hb
  walk_at "s"
  refine ws_setLcLstT B (by walk_at "at") (by rfl) (by rfl) (by walk_at "at") (by decide +kernel) (by rfl) ?_
  repeat (walk_at "s")
  refine ⟨_, .ref g9, compT_pure (xs := sharesF s a b) (v := vr) (f := vr) (g := fun t => !decide (rcomp t (0, 1) < 0) && !decide (rcomp (1, 1) t < 0)) (Q := fun u M0 => ∃ D, u = .ref D ∧ LeM M M0 ∧ M0 D = some (.lst ((goodF s a b).map vr))) (.ref g9) (Nat.le_trans sl (by decide)) ?_ ?_ ?_ ?_⟩
  · intro Y B' j t M' hj l
    have bt := (sbt t (List.mem_of_getElem? hj)).mono (m := BIG) (by decide)
    repeat (walk_at "s")
    refine we_glr B' rfl mN rN ?_
    repeat (walk_at "s")
    refine ⟨t, (0, 1), rfl, bt, RB.zero.big, ?_⟩
    refine ⟨_, .bl _, ?_⟩
    cases hk : decide (rcomp t (0, 1) < 0) with
    | true =>
      rw [if_neg (by decide)]
      exact ⟨rfl, LeM.refl⟩
    | false =>
      rw [if_pos (show (!false) = true from rfl)]
      repeat (walk_at "s")
      refine we_glr B' rfl mO rO ?_
      repeat (walk_at "s")
      refine ⟨(1, 1), t, rfl, ⟨Nat.one_lt_two_pow (by decide), Nat.one_lt_two_pow (by decide), by decide⟩, bt, ?_⟩
      exact ⟨_, .bl _, rfl, LeM.refl⟩
  · intro Y B' j t M' hj _ l
    repeat (walk_at "s")
    exact ⟨rfl, LeM.refl⟩
  · intro D hD
    exact ⟨D, rfl, l9.trans (LeM.new hD), updM_same⟩
  rintro u M10 ⟨M11, l11, D, rfl, l12, gD⟩
  have gD2 := l11 _ _ gD
  have lM := l12.trans l11
  clear gD l11 l12 M11 g9 l9 M9
  have gl : (goodF s a b).length ≤ 6 := Nat.le_trans (List.length_filter_le _ _) sl
  have gb := good_bits hs ha hb
  repeat (walk_at "s")
  refine we_lcLst B (by walk_at "at") (by decide +kernel) (by rfl) ?_
  repeat (walk_at "s")
  refine ⟨_, .ref gD2, comp_pureS (xs := goodF s a b) (v := vr) (f := fun t => vr (apartOf s (onWay a b t))) (Q := fun u M0 => ∃ D, u = .ref D ∧ LeM M M0 ∧ M0 D = some (.lst (((goodF s a b).map fun t => apartOf s (onWay a b t)).map vr))) (.ref gD2) (Nat.le_trans gl (by decide)) ?_ ?_ ?_⟩
  · intro Y B' j t M' hj l
    have bt := gb t (List.mem_of_getElem? hj)
    repeat (walk_at "s")
    refine ⟨a, b, t, rfl, ha.mono (by decide), hb.mono (by decide), bt.mono (by decide), ?_⟩
    repeat (walk_at "s")
    refine ⟨s, onWay a b t, rfl, hs.mono (by decide), (onWay_bits ha hb bt).mono (by decide), ?_⟩
    exact ⟨rfl, LeM.refl⟩
  · intro D hD
    refine ⟨D, rfl, lM.trans (LeM.new hD), ?_⟩
    rw [updM_same, List.map_map]; rfl
  rintro u M12 ⟨M13, l13, E', rfl, l14, gE⟩
  repeat (walk_at "s")
  refine ⟨_, _, rfl, .ref (l13 _ _ gE), by simpa using good_ne hs.sp ha.sp hb.sp, fun x hx => ?_, by rw [List.length_map]; omega, ?_⟩
  · obtain ⟨t, ht, rfl⟩ := List.mem_map.mp hx
    exact (apartOf_bits hs (onWay_bits ha hb (gb t ht))).mono (by decide)
  exact ⟨M, l14.trans l13, q⟩
theorem df_pieces_of {E : Ev} (hL : E.mg "len" = none) (hLi : E.mg "list" = none) (hZ : E.mg "zip" = none) (T : Tx E "pieces_of" (top 21) ["polyline"]) : E.df 1 "pieces_of" ["polyline"] spPiecesOf := by
  refine T.df ["polyline"] ⟨rfl, rfl, rfl, by decide +kernel, rfl, by decide +kernel, by decide +kernel⟩ (fun ws M Q ⟨a, b, e, _⟩ => by rw [e]; rfl) fun X B ws M Q ⟨w, row, e, hw, hne, hlen, q⟩ => ?_
  subst e
  have bL := bb_len
  show WSs X _ [some w] M _
  repeat (walk_at "s")
  refine oc_len hw ?_
  rw [List.length_map]
  repeat (walk_at "s")
  unfold piecesF at q
  refine ite_dec (fun c => ?_) (fun c => ?_)
  · rw [if_pos (by omega)] at q
    cases row with
    | nil => exact absurd rfl hne
    | cons a row =>
      repeat (walk_at "s")
      refine oi_lst (w := vsp a) hw (atI_nat (j := 0) rfl) ?_
      repeat (walk_at "s")
      refine oi_lst (w := vsp a) hw (atI_nat (j := 0) rfl) ?_
      repeat (walk_at "s")
      refine ⟨by show 2 ≤ sizeLine; decide, ?_⟩
      repeat (walk_at "s")
      refine ⟨by show 1 ≤ sizeLine; decide, fun p np => ?_⟩
      exact ⟨_, LeM.refl, q p np⟩
  · rw [if_neg (by omega)] at q
    walk_at "s"
    walk_at "s"
    walk_at "s"
    refine we_listZip B rfl hLi rfl hZ ?_
    repeat (walk_at "s")
    refine ⟨_, rfl, ?_⟩
    refine ⟨_, hw, fun p np => ?_⟩
    have cw : cutW (row.map vsp) (some 1) none = (row.drop 1).map vsp := (cut_from (a := 1) rfl).trans List.map_drop.symm
    rw [cw]
    repeat (walk_at "s")
    refine ⟨w, .ref p, row.map vsp, (row.drop 1).map vsp, rfl, hw.le (LeM.new np), .ref updM_same, fun A nA => ?_⟩
    rw [zip_vsp]
    have nA' : M A = none := by
      by_cases c : A = p
      · subst c; exact np
      · rw [updM_ne c] at nA; exact nA
    exact ⟨_, LeM.upd (LeM.new np), q A nA'⟩
theorem df_apart {E : Ev} (D1 : E.df 3 "least" ["some"] spLeast) (D2 : E.df 5 "to_piece" ["spot", "one", "other"] spToPiece) (D3 : E.df 1 "pieces_of" ["polyline"] spPiecesOf) (T : Tx E "apart" (top 22) ["spot", "polyline"]) : E.df 6 "apart" ["spot", "polyline"] spApart := by
  refine T.df ["spot", "polyline", "one", "other"] ⟨rfl, rfl, rfl, by decide +kernel, rfl, by decide +kernel, by decide +kernel⟩ (fun ws M Q ⟨a, b, c, e, _⟩ => by rw [e]; rfl) fun X B ws M Q ⟨w, s, row, e, hw, hne, hlen, hs, hb, q⟩ => ?_
  subst e
  show WSs X _ [some (vsp s), some w, none, none] M _
  repeat (walk_at "s")
  refine we_lc B [("one", 2), ("other", 3)] (by decide +kernel) (by decide) (pgI2 B (by walk_at "at") (by rfl) (by walk_at "at") (by rfl)) ctg2 ?_
  refine wi_lst ?_
  repeat (walk_at "s")
  refine ⟨w, row, rfl, hw, hne, by omega, fun p np => ?_⟩
  have pb := pieces_bits hb
  have pl := pieces_len (row := row)
  refine ⟨(piecesF row).map vpp, .ref updM_same, ?_⟩
  refine compI_map (piecesF row) (itm_lst (.ref updM_same) (Nat.le_trans (show (piecesF row).length ≤ 100 by omega) (by decide))) (fun z => vr (toPiece s z.1 z.2)) ?_ ?_
  · rintro ⟨a, b⟩ u M' hz rfl l
    refine ⟨[vsp a, vsp b], ⟨_, _, rfl, rfl⟩, fun Y B' => ?_⟩
    show WE Y _ [some (vsp s), some w, some (vsp a), some (vsp b)] M' _
    repeat (walk_at "s")
    refine ⟨s, a, b, rfl, hs, (pb _ hz).1, (pb _ hz).2, ?_⟩
    exact ⟨rfl, LeM.refl⟩
  · intro D hD M' l
    repeat (walk_at "s")
    refine ⟨.ref D, (piecesF row).map fun z => toPiece s z.1 z.2, rfl, .ref (by rw [l _ _ updM_same, List.map_map]; rfl), by simpa using (piecesF_sp (fun s hs => (hb s hs).sp) hne).1, fun x hx => ?_, by rw [List.length_map]; omega, ?_⟩
    · obtain ⟨z, hz, rfl⟩ := List.mem_map.mp hx
      exact (toPiece_bits hs (pb z hz).1 (pb z hz).2).mono (by decide)
    · exact ⟨M, (LeM.new np).trans ((LeM.new hD).trans l), q⟩
end G3

set_option Elab.async false
set_option linter.all false
set_option maxRecDepth 100000
set_option maxHeartbeats 4000000
set_option pp.maxSteps 1000
namespace G3
open PySem PySem.Spec L2
local macro_rules | `(tactic| walk_at "at") => `(tactic| with_reducible (repeat (first | exact At.here | apply At.there)))
local macro_rules | `(tactic| walk_at "vis") => `(tactic| first | exact Or.inl rfl | exact Or.inr (Or.inl rfl) | exact Or.inr (Or.inr rfl))
local macro_rules | `(tactic| walk_at "loc") => `(tactic| first | exact Or.inl rfl | exact Or.inr rfl)
local macro_rules | `(tactic| walk_at "as") => `(tactic| with_reducible assumption)
local macro_rules | `(tactic| walk_at "e") => `(tactic| first
  | ((with_reducible show G3.WE _ (.Name _ _) _ _ _); first | refine we_nm (by walk_at "as") (by walk_at "at") (by walk_at "vis") (by rfl) ?_ | refine we_tyn (by walk_at "as") (by rfl) (by walk_at "as") (by walk_at "as") ?_ | refine we_cls (C := He.ga _ _) (by walk_at "as") (by rfl) (by walk_at "as") ?_ | refine we_nmH (by walk_at "as") (by walk_at "at") (by walk_at "vis") (by rfl) ?_ | refine we_tynH (by walk_at "as") (by rfl) (by walk_at "as") (by walk_at "as") ?_ | refine we_clsH (C := He.ga _ _) (by walk_at "as") (by rfl) (by walk_at "as") ?_)
  | ((with_reducible show G3.WE _ (.Constant (.int _) _ _) _ _ _); refine we_int ?_)
  | ((with_reducible show G3.WE _ (.Subscript _ (.Slice _ _ (some _) _) _) _ _ _); refine we_rev ?_)
  | ((with_reducible show G3.WE _ (.Subscript _ (.Slice _ _ none _) _) _ _ _); refine we_slice ?_)
  | ((with_reducible show G3.WE _ (.Subscript _ _ _) _ _ _); refine we_ix ?_)
  | ((with_reducible show G3.WE _ (.BinOp _ _ _ _) _ _ _); refine we_op ?_)
  | ((with_reducible show G3.WE _ (.Call (.Name _ _) _ _ _) _ _ _); first
      | refine we_call (by walk_at "as") (by walk_at "as") (by decide) (by rfl) ?_
      | refine we_callB (by walk_at "as") (by rfl) (by walk_at "as") (by walk_at "as") ?_
      | refine we_callTy (by walk_at "as") (by rfl) (by walk_at "as") (by walk_at "as") ?_
      | refine we_callX (by walk_at "as") (by walk_at "as") (by walk_at "as") (by decide) (by rfl) (by walk_at "as") ?_
      | refine we_callBH (by walk_at "as") (by rfl) (by walk_at "as") (by walk_at "as") ?_)
  | ((with_reducible show G3.WE _ (.Attribute _ _ _) _ _ _); first | refine we_fld (by walk_at "as") ?_ | refine we_xfH (by walk_at "as") (by walk_at "as") (by walk_at "as") (by walk_at "as") ?_)
  | ((with_reducible show G3.WE _ (.Tuple _ _ _) _ _ _); refine we_tup ?_)
  | ((with_reducible show G3.WE _ (.List _ _) _ _ _); first | refine we_lstN ?_ | refine we_lst ?_)
  | ((with_reducible show G3.WE _ (.Compare _ [_] _ _) _ _ _); refine we_cmp ?_)
  | ((with_reducible show G3.WE _ (.Compare _ [_, _] _ _) _ _ _); refine we_chain ?_)
  | ((with_reducible show G3.WE _ (.UnaryOp .Not _ _) _ _ _); refine we_not ?_)
  | ((with_reducible show G3.WE _ (.UnaryOp _ _ _) _ _ _); refine we_un ?_)
  | ((with_reducible show G3.WE _ (.IfExp _ _ _ _) _ _ _); refine we_if ?_)
  | ((with_reducible show G3.WE _ (.Constant _ _ _) _ _ _); first | refine we_bl ?_ | refine we_non ?_ | refine we_str ?_)
  | ((with_reducible show G3.WE _ (.JoinedStr (_ :: _ :: _) _) _ _ _); refine we_joined ?_)
  | ((with_reducible show G3.WE _ (.FormattedValue _ _ _ _) _ _ _); refine we_fmt ?_)
  | ((with_reducible show G3.WE _ (.BoolOp _ [_] _) _ _ _); refine we_one ?_)
  | ((with_reducible show G3.WE _ (.BoolOp .And _ _) _ _ _); refine we_and ?_)
  | ((with_reducible show G3.WE _ (.BoolOp .Or _ _) _ _ _); refine we_or ?_))
local macro_rules | `(tactic| walk_at "t") => `(tactic| first
  | ((with_reducible show WT _ (.Compare _ [_] _ _) _ _ _); refine wt_cmp ?_)
  | ((with_reducible show WT _ (.Compare _ [_, _] _ _) _ _ _); refine wt_chain ?_)
  | ((with_reducible show WT _ (.UnaryOp .Not _ _) _ _ _); refine wt_not ?_)
  | ((with_reducible show WT _ (.BoolOp .And _ _) _ _ _); refine wt_w (ww_and ?_))
  | ((with_reducible show WT _ (.BoolOp .Or _ _) _ _ _); refine wt_w (ww_or ?_))
  | refine wt_truth ?_)
local macro_rules | `(tactic| walk_at "w") => `(tactic| first
  | ((with_reducible show WW _ (.BoolOp .And [_] _) _ _ _); refine ww_and1 ?_)
  | ((with_reducible show WW _ (.BoolOp .Or [_] _) _ _ _); refine ww_or1 ?_)
  | ((with_reducible show WW _ (.BoolOp .And _ _) _ _ _); refine ww_and ?_)
  | ((with_reducible show WW _ (.BoolOp .Or _ _) _ _ _); refine ww_or ?_))
local macro_rules | `(tactic| walk_at "st") => `(tactic| first
  | ((with_reducible show WS _ (.Assign [.Name _ _] (.ListComp _ _ _ _) _) _ _ _); fail)
  | ((with_reducible show WS _ (.Assign [.Name _ _] _ _) _ _ _); first | refine ws_set (by walk_at "as") (by walk_at "at") (by walk_at "loc") ?_ | refine ws_setH (by walk_at "as") (by walk_at "at") (by walk_at "loc") ?_)
  | ((with_reducible show WS _ (.Return (some _) _) _ _ _); refine ws_ret ?_)
  | ((with_reducible show WS _ (.If _ _ _ _) _ _ _); refine ws_if ?_)
  | ((with_reducible show WS _ (.Expr (.Call (.Attribute _ "append" _) _ _ _) _) _ _ _); refine ws_append ?_)
  | ((with_reducible show WS _ (.Expr (.Call (.Attribute _ "insert" _) _ _ _) _) _ _ _); refine ws_insert ?_)
  | ((with_reducible show WS _ (.Expr _ _) _ _ _); refine ws_expr ?_)
  | ((with_reducible show WS _ (.Assign [.Tuple _ _ _] (.Tuple _ _ _) _) _ _ _); first
      | refine ws_par2 (by walk_at "as") (by walk_at "at") (by walk_at "at") (by rfl) (by rfl) (by rfl) (by rfl) ?_
      | refine ws_asgT (by walk_at "as") (by rfl) ?_)
  | ((with_reducible show WS _ (.Raise (some _) none _) _ _ _); refine ws_raise (by walk_at "as") (by walk_at "as") ?_)
  | ((with_reducible show WS _ (.Assign [_] _ _) _ _ _); (fail_if_success (with_reducible show WS _ (.Assign [.Attribute _ _ _] _ _) _ _ _)); refine ws_asg ?_)
  | ((with_reducible show WS _ (.Return none _) _ _ _); refine ws_retN ?_)
  | ((with_reducible show WS _ (.Pass _) _ _ _); refine ws_pass ?_)
  | ((with_reducible show WS _ (.Break _) _ _ _); refine ws_break ?_)
  | ((with_reducible show WS _ (.Continue _) _ _ _); refine ws_continue ?_))
local macro_rules | `(tactic| walk_at "mul") => `(tactic| with_unfolding_all first
  | exact cml (by decide) (by decide)
  | exact cmr (by decide) (by decide)
  | exact cmw (by with_reducible assumption) (by with_reducible assumption) (by decide) (by decide) (by decide)
  | exact cml (by omega) (by omega)
  | exact cmr (by omega) (by omega))
local macro_rules | `(tactic| walk_at "o2") => `(tactic| with_reducible first
  | refine o2_add ?_
  | refine o2_sub ?_
  | refine o2_mul (by walk_at "mul") ?_
  | refine o2_lt ?_
  | refine o2_le ?_
  | refine o2_gt ?_
  | refine o2_ge ?_
  | refine o2_eqi ?_
  | refine o2_nei ?_
  | refine o2_eqb ?_
  | refine o2_neb ?_
  | refine o2_eqs ?_
  | refine o2_nes ?_
  | refine o2_isN ?_
  | refine o2_notN ?_)
local macro_rules | `(tactic| walk_at "x") => `(tactic| first
  | ((with_reducible show G3.WE _ _ _ _ _); walk_at "e")
  | ((with_reducible show WA _ _ _ _ _); first | refine wa_cons ?_ | refine wa_nil ?_)
  | ((with_reducible show WMk _ (.Call (.Name _ _) [] _ _) _ _ _); refine wmk_own0 (by walk_at "as") (by walk_at "as") (by decide) (by rfl) ?_)
  | ((with_reducible show WO _ _ _ _ _); first | (show G3.WE _ _ _ _ _))
  | ((with_reducible show WT _ _ _ _ _); walk_at "t")
  | ((with_reducible show G3.WJ _ _ _ _ _ _); first | refine wj_cons ?_ | refine wj_nil ?_)
  | ((with_reducible show G3.WK _ _ _ _ _); first | refine wk_cons ?_ | refine wk_nil ?_)
  | ((with_reducible show WW _ _ _ _ _); walk_at "w")
  | ((with_reducible show WS _ _ _ _ _); walk_at "st")
  | ((with_reducible show O2 _ _ _ _ _ _); walk_at "o2")
  | ((with_reducible show OI _ (.tup _) _ _ _); refine oi_tup rfl ?_)
  | ((with_reducible show OC _ _ _ _ _); with_reducible first | refine oc_abs ?_ | refine oc_int ?_ | refine oc_intb ?_ | refine oc_lenT ?_)
  | ((with_reducible show O1 _ _ _ _ _); refine o1_neg ?_)
  | ((with_reducible show BQ _ _ _); refine ⟨_, rfl, ?_⟩)
  | ((with_reducible show WG _ _ _ _ _ _); first | refine wg_name (by walk_at "as") (by walk_at "at") (by walk_at "loc") ?_ | refine wg_tup (by walk_at "as") ?_)
  | ((with_reducible show WGs _ _ _ _ _ _); first | refine wgs_cons (by walk_at "as") (by walk_at "at") (by walk_at "loc") ?_ | refine wgs_nil ?_))
local macro_rules | `(tactic| walk_at "s") => `(tactic| first
  | walk_at "x"
  | ((with_reducible show WSs _ _ _ _ _); first | refine wss_cons ?_ | refine wss_nil ?_))
theorem df_isint {E : Ev} (hI : E.mg "isinstance" = none) (hB : E.mg "bool" = none) (hN : E.mg "int" = none) (T : Tx E "_law_whole" (top 33) ["_law_found"]) : E.df 1 "_law_whole" ["_law_found"] spIsInt := by
  refine T.df ["_law_found"] ⟨rfl, rfl, rfl, by decide +kernel, rfl, by decide +kernel, by decide +kernel⟩ (fun ws M Q ⟨a, e, _⟩ => by rw [e]; rfl) fun X B ws M Q ⟨i, e, q⟩ => ?_
  subst e
  have bI := bb_isi
  have bB := bb_bool
  have bN := bb_int
  show WSs X _ [some (.int i)] M _
  repeat (walk_at "s")
  refine oc_isi (.int i) (b := true) (by decide +kernel) ?_
  refine ⟨_, rfl, iteT ?_⟩
  repeat (walk_at "s")
  refine oc_isi (.int i) (b := false) (by decide +kernel) ?_
  repeat (walk_at "s")
  exact ⟨M, LeM.refl, q⟩
theorem df_bag {E : Ev} (hL : E.mg "list" = none) (T : Tx E "_law_bag" (top 31) ["_law_script"]) : E.df 1 "_law_bag" ["_law_script"] spBag := by
  refine T.df ["_law_script"] ⟨rfl, rfl, rfl, by decide +kernel, rfl, by decide +kernel, by decide +kernel⟩ (fun ws M Q ⟨a, b, e, _⟩ => by rw [e]; rfl) fun X B ws M Q ⟨w, ns, e, hl, nb, q⟩ => ?_
  subst e
  have bL := bb_list
  show WSs X _ [some w] M _
  walk_at "s"
  walk_at "s"
  refine we_close ?_
  repeat (walk_at "s")
  refine ⟨_, rfl, ?_⟩
  refine ⟨_, hl, fun p np => ?_⟩
  have cw : cutW (ns.map VV.int) none (some 63) = (ns.take 63).map VV.int := (cut_to (b := 63) rfl).trans List.map_take.symm
  rw [cw]
  repeat (walk_at "s")
  refine oc_list (.ref updM_same) fun c nc => ?_
  repeat (walk_at "s")
  refine ⟨by show 3 ≤ sizeLine; decide, fun b nb' => ?_⟩
  have npc : c ≠ p := by rintro rfl; rw [updM_same] at nc; cases nc
  have nbc : b ≠ c := by rintro rfl; rw [updM_same] at nb'; cases nb'
  rw [updM_ne npc] at nc
  rw [updM_ne nbc] at nb'
  have nbp : b ≠ p := by rintro rfl; rw [updM_same] at nb'; cases nb'
  rw [updM_ne nbp] at nb'
  refine ⟨updM M b .bag, b, c, 0, 11, ns.take 63, updM_same, ?_, ⟨by decide, by decide, by decide, by rw [List.length_take]; omega⟩, fun a => ?_, updM_same, ?_, fun a o h hab => ?_, _, LeM.refl, q b nb'⟩
  · rw [updM_ne nbc.symm, updM_same]
  · by_cases h1 : a = b
    · subst h1; rw [updM_same]; intro z; cases z
    · rw [updM_ne h1]
      by_cases h2 : a = c
      · subst h2; rw [updM_same]; intro z; cases z
      · rw [updM_ne h2]
        by_cases h3 : a = p
        · subst h3; rw [updM_same]; intro z; cases z
        · rw [updM_ne h3]; exact nb a
  · rw [updM_ne nbc.symm]; exact nc
  · rw [updM_ne hab] at h
    rw [updM_ne hab, updM_ne (neM h nc), updM_ne (neM h np)]
    exact h
theorem df_draw {E : Ev} (hL : E.mg "len" = none) (T : Tx E "_law_draw" (top 32) ["_law_bag_here", "_law_many"]) : E.df 1 "_law_draw" ["_law_bag_here", "_law_many"] spDraw := by
  refine T.df ["_law_bag_here", "_law_many", "_law_cells", "_law_slot", "_law_cell", "_law_seed"] ⟨rfl, rfl, rfl, by decide +kernel, rfl, by decide +kernel, by decide +kernel⟩ (fun ws M Q ⟨a, b, e, _⟩ => by rw [e]; rfl) fun X B ws M Q ⟨b, many, e, hb, hm0, hm1, q⟩ => ?_
  subst e
  have bL := bb_len
  show WSs X _ [some (.ref b), some (.int many), none, none, none, none] M _
  refine wss_open hb fun c sl sd cells ok nc ncb hu => ?_
  obtain ⟨sl0, sd0, sd1, hlen⟩ := ok
  -- the heap with the bag open: sl', sd', cells' as they stand
  have key : ∀ (sl' sd' : Int) (cells' : List Int) (r : Int), BagOk sl' sd' cells' → 0 ≤ r → r < many → ∀ M' : Mp, M' b = some (.lst [.ref c, .int sl', .int sd']) → M' c = some (.lst (cells'.map VV.int)) → (∀ a, a ≠ b → a ≠ c → M' a = M a) →
      ∃ M0 b c sl sd cells, M' b = some (.lst [.ref c, .int sl, .int sd]) ∧ M' c = some (.lst (cells.map VV.int)) ∧ BagOk sl sd cells ∧ (∀ a, M' a ≠ some .bag) ∧ M0 b = some .bag ∧ M0 c = none ∧ (∀ a o, M0 a = some o → a ≠ b → M' a = some o) ∧ Fgt Q (.int r) M0 := by
    intro sl' sd' cells' r ok' r0 r1 M' h1 h2 h3
    refine ⟨M, b, c, sl', sd', cells', h1, h2, ok', fun a => ?_, hb, nc, fun a o h hab => ?_, M, LeM.refl, q r r0 r1⟩
    · by_cases e1 : a = b
      · subst e1; rw [h1]; intro z; cases z
      · by_cases e2 : a = c
        · subst e2; rw [h2]; intro z; cases z
        · rw [h3 a e1 e2]; exact fun z => e1 (hu a z)
    · rw [h3 a hab (neM h nc)]; exact h
  have hMb : (updM (updM M b (.lst [.ref c, .int sl, .int sd])) c (.lst (cells.map VV.int))) b = some (.lst [.ref c, .int sl, .int sd]) := by rw [updM_ne ncb.symm, updM_same]
  have hMc : (updM (updM M b (.lst [.ref c, .int sl, .int sd])) c (.lst (cells.map VV.int))) c = some (.lst (cells.map VV.int)) := updM_same
  have hMo : ∀ a, a ≠ b → a ≠ c → (updM (updM M b (.lst [.ref c, .int sl, .int sd])) c (.lst (cells.map VV.int))) a = M a := fun a h1 h2 => by rw [updM_ne h2, updM_ne h1]
  generalize updM (updM M b (.lst [.ref c, .int sl, .int sd])) c (.lst (cells.map VV.int)) = M1 at hMb hMc hMo
  repeat (walk_at "s")
  refine oi_lst (.ref hMb) rfl ?_
  repeat (walk_at "s")
  refine oi_lst (.ref hMb) rfl ?_
  walk_at "s"
  walk_at "s"
  walk_at "s"
  refine wss_cut (fun σ M' => M1 = M' ∧ ∃ v : Int, σ = [some (.ref b), some (.int many), some (.ref c), some (.int sl), some (.int v), none] ∧ (cells = [] → v = 0)) ?_ ?_
  · repeat (walk_at "s")
    refine oc_len (.ref hMc) ?_
    repeat (walk_at "s")
    rw [List.length_map]
    refine ite_dec (fun h => ?_) (fun h => ?_)
    · have hpos : 0 < cells.length := by omega
      repeat (walk_at "s")
      refine oc_len (.ref hMc) ?_
      rw [List.length_map]
      refine o2_mod (by omega) ?_
      have h1 := Int.emod_nonneg sl (show (cells.length : Int) ≠ 0 by omega)
      have h2 := Int.emod_lt_of_pos sl (show (0 : Int) < cells.length by omega)
      obtain ⟨j, hj⟩ := Int.eq_ofNat_of_zero_le h1
      have hjl : j < cells.length := by omega
      rw [hj]
      refine oi_lst (w := .int cells[j]) (.ref hMc) (atI_nat (by simp [hjl])) ?_
      repeat (walk_at "s")
      exact ⟨rfl, _, rfl, fun z => absurd z (by intro z; rw [z] at hpos; exact absurd hpos (by decide))⟩
    · repeat (walk_at "s")
      exact ⟨rfl, 0, rfl, fun _ => rfl⟩
  rintro σ M' ⟨rfl, v, rfl, hv⟩
  refine wss_cut (fun σ M' => M1 = M' ∧ ∃ v : Int, σ = [some (.ref b), some (.int many), some (.ref c), some (.int sl), some (.int v), none] ∧ (cells = [] → v ≤ 1) ∧ 0 ≤ v) ?_ ?_
  · repeat (walk_at "s")
    refine ite_dec (fun h => ?_) (fun h => ?_)
    · repeat (walk_at "s")
      exact ⟨rfl, _, rfl, fun z => by have := hv z; omega, by omega⟩
    · repeat (walk_at "s")
      exact ⟨rfl, v, rfl, fun z => by have := hv z; omega, by omega⟩
  clear hv v
  rintro σ M' ⟨rfl, v, rfl, hv, hv0⟩
  repeat (walk_at "s")
  refine o2_pow (by unfold CPow; decide) ?_
  repeat (walk_at "s")
  refine ite_dec (fun h => ?_) (fun h => ?_)
  · have hne : cells ≠ [] := fun z => by have := hv z; have : (10 : Int) ^ (18 : Int).toNat = 1000000000000000000 := by decide
                                         omega
    have hpos : 0 < cells.length := List.length_pos_iff.mpr hne
    repeat (walk_at "s")
    refine o2_div hm0 (by omega) ?_
    refine wg_sub ?_
    repeat (walk_at "s")
    refine oc_len (.ref hMc) ?_
    rw [List.length_map]
    refine o2_mod (by omega) ?_
    have h1 := Int.emod_nonneg sl (show (cells.length : Int) ≠ 0 by omega)
    have h2 := Int.emod_lt_of_pos sl (show (0 : Int) < cells.length by omega)
    obtain ⟨j, hj⟩ := Int.eq_ofNat_of_zero_le h1
    have hjl : j < cells.length := by omega
    rw [hj]
    refine oset_lst (j := j) hMc ?_ ?_
    · unfold ixN
      rw [List.length_map, if_pos (by omega), if_pos (by omega), Int.toNat_natCast]
    · walk_at "s"
      walk_at "s"
      refine we_close ?_
      repeat (walk_at "s")
      refine o2_mod hm0 ?_
      refine key sl sd (cells.set j (v / many)) _ ⟨sl0, sd0, sd1, by rw [List.length_set]; exact hlen⟩ (Int.emod_nonneg _ (by omega)) (Int.emod_lt_of_pos _ hm0) _ ?_ ?_ fun a e1 e2 => ?_
      · rw [updM_ne ncb.symm]; exact hMb
      · rw [updM_same, List.map_set]
      · rw [updM_ne e2]; exact hMo a e1 e2
  · repeat (walk_at "s")
    refine wg_sub ?_
    repeat (walk_at "s")
    refine oset_lst (j := 1) hMb rfl ?_
    have eS : ([.ref c, .int sl, .int sd] : List VV).set 1 (.int (sl + 1)) = [.ref c, .int (sl + 1), .int sd] := rfl
    rw [eS]
    have gB : (updM M1 b (.lst [.ref c, .int (sl + 1), .int sd])) b = some (.lst [.ref c, .int (sl + 1), .int sd]) := updM_same
    have gC : (updM M1 b (.lst [.ref c, .int (sl + 1), .int sd])) c = some (.lst (cells.map VV.int)) := by rw [updM_ne ncb]; exact hMc
    have gO : ∀ a, a ≠ b → a ≠ c → (updM M1 b (.lst [.ref c, .int (sl + 1), .int sd])) a = M a := fun a h1 h2 => by rw [updM_ne h1]; exact hMo a h1 h2
    generalize updM M1 b (.lst [.ref c, .int (sl + 1), .int sd]) = M2 at gB gC gO
    repeat (walk_at "s")
    refine oi_lst (.ref gB) rfl ?_
    repeat (walk_at "s")
    refine o2_mod (by decide) ?_
    repeat (walk_at "s")
    have m1 := Int.emod_lt_of_pos (sd * sd) (show (0 : Int) < 2147483629 by decide)
    have m2 := Int.emod_nonneg (sd * sd) (show (2147483629 : Int) ≠ 0 by decide)
    refine o2_mod (by decide) ?_
    refine wg_sub ?_
    repeat (walk_at "s")
    refine oset_lst (j := 2) gB rfl ?_
    generalize hsd' : (sd * sd % 2147483629 * 3 + sd * 48271 + v * 9973 + sl * 31 + 13) % 2147483647 = sd'
    have s1 := Int.emod_lt_of_pos (sd * sd % 2147483629 * 3 + sd * 48271 + v * 9973 + sl * 31 + 13) (show (0 : Int) < 2147483647 by decide)
    have s2 := Int.emod_nonneg (sd * sd % 2147483629 * 3 + sd * 48271 + v * 9973 + sl * 31 + 13) (show (2147483647 : Int) ≠ 0 by decide)
    rw [hsd'] at s1 s2
    have eS : ([.ref c, .int (sl + 1), .int sd] : List VV).set 2 (.int sd') = [.ref c, .int (sl + 1), .int sd'] := rfl
    rw [eS]
    walk_at "s"
    walk_at "s"
    refine we_close ?_
    repeat (walk_at "s")
    refine oi_lst (.ref updM_same) rfl ?_
    repeat (walk_at "s")
    refine o2_mod (by decide) ?_
    repeat (walk_at "s")
    refine o2_div (by decide) (by decide) ?_
    repeat (walk_at "s")
    refine o2_mod hm0 ?_
    refine key (sl + 1) sd' cells _ ⟨by omega, s2, s1, hlen⟩ (Int.emod_nonneg _ (by omega)) (Int.emod_lt_of_pos _ hm0) _ updM_same ?_ fun a e1 e2 => ?_
    · rw [updM_ne ncb]; exact gC
    · rw [updM_ne e1]; exact gO a e1 e2
theorem df_any {E : Ev} (hL : E.mg "len" = none) (D1 : E.df 1 "_law_draw" ["_law_bag_here", "_law_many"] spDraw) (T : Tx E "_law_any" (top 34) ["_law_bag_here", "_law_some"]) : E.df 2 "_law_any" ["_law_bag_here", "_law_some"] spAny := by
  refine T.df ["_law_bag_here", "_law_some"] ⟨rfl, rfl, rfl, by decide +kernel, rfl, by decide +kernel, by decide +kernel⟩ (fun ws M Q ⟨a, b, c, e, _⟩ => by rw [e]; rfl) fun X B ws M Q ⟨b, w, xs, e, hb, hl, h0, h1, q⟩ => ?_
  subst e
  have bL := bb_len
  show WSs X _ [some (.ref b), some w] M _
  repeat (walk_at "s")
  refine oc_len hl ?_
  repeat (walk_at "s")
  refine ⟨b, _, rfl, hb, by omega, by omega, fun r r0 r1 => ?_⟩
  obtain ⟨j, hj⟩ := Int.eq_ofNat_of_zero_le r0
  have hjl : j < xs.length := by omega
  rw [hj]
  refine oi_lst (w := xs[j]) hl (atI_nat (by simp [hjl])) ?_
  exact ⟨M, LeM.refl, q _ (List.getElem_mem hjl)⟩
theorem df_rat {E : Ev} (hAbs : E.mg "abs" = none) (T : Tx E "_law_rat" (top 35) ["_law_over", "_law_under"]) : E.df 1 "_law_rat" ["_law_over", "_law_under"] spRat := by
  refine T.df ["_law_over", "_law_under", "_law_one", "_law_two"] ⟨rfl, rfl, rfl, by decide +kernel, rfl, by decide +kernel, by decide +kernel⟩ (fun ws M Q ⟨a, b, e, _⟩ => by rw [e]; rfl) fun X B ws M Q ⟨a, b, e, hb, hz, q⟩ => ?_
  subst e
  show WSs X _ [some (.int a), some (.int b), none, none] M _
  have bA := bb_abs
  repeat (walk_at "s")
  refine ⟨_, _, rfl, ?_⟩
  show WSs X _ [some (.int a), some (.int b), some (.int a.natAbs), some (.int b.natAbs)] M _
  walk_at "s"
  refine ws_while B (fun n σ M' => ∃ x y : Nat, σ = [some (.int a), some (.int b), some (.int x), some (.int y)] ∧ M = M' ∧ Nat.gcd x y = Int.gcd a b ∧ y = n) b.natAbs ⟨_, _, rfl, rfl, rfl, rfl⟩ ?_
  rintro n σ M' ⟨x, y, rfl, rfl, hg, rfl⟩
  repeat (walk_at "s")
  refine ite_dec (fun hy => ?_) (fun hy => ?_)
  · have hy' : 0 < y := by omega
    repeat (walk_at "s")
    refine o2_mod (by omega) ?_
    repeat (walk_at "s")
    refine ⟨_, _, rfl, ?_⟩
    repeat (walk_at "s")
    refine ⟨x % y, Nat.mod_lt _ hy', y, x % y, rfl, rfl, (gcd_step x y).trans hg, rfl⟩
  · have hy' : y = 0 := by omega
    subst hy'
    rw [Nat.gcd_zero_right] at hg
    subst hg
    have gb := gcd_bits (a := a) hb hz
    have gn := gcd_ne (a := a) hb
    repeat (walk_at "s")
    refine ite_dec (fun h => ?_) (fun h => ?_)
    · rw [nrm_neg h] at q
      repeat (walk_at "s")
      rw [Int.zero_sub]
      refine o2_fdiv (cdv (by omega) (by rw [Int.natAbs_neg]; exact gb) (by decide) (by decide)) ?_
      repeat (walk_at "s")
      refine o2_fdiv (cdv (by omega) (by rw [Int.natAbs_neg]; exact gb) (by decide) (by decide)) ?_
      repeat (walk_at "s")
      exact ⟨by show 2 ≤ sizeLine; decide, M, LeM.refl, q⟩
    · rw [nrm_nn h] at q
      repeat (walk_at "s")
      refine o2_fdiv (cdv gn gb (by decide) (by decide)) ?_
      repeat (walk_at "s")
      refine o2_fdiv (cdv gn gb (by decide) (by decide)) ?_
      repeat (walk_at "s")
      exact ⟨by show 2 ≤ sizeLine; decide, M, LeM.refl, q⟩
theorem df_lsum {E : Ev} (D1 : E.df 1 "_law_rat" ["_law_over", "_law_under"] spRat) (T : Tx E "_law_sum" (top 36) ["_law_one", "_law_two"]) : E.df 2 "_law_sum" ["_law_one", "_law_two"] (spBin rsum) := by
  refine T.df ["_law_one", "_law_two"] ⟨rfl, rfl, rfl, by decide +kernel, rfl, by decide +kernel, by decide +kernel⟩ (fun ws M Q ⟨a, b, e, _⟩ => by rw [e]; rfl) fun X B ws M Q ⟨p, r, e, hp, hr, q⟩ => ?_
  subst e
  have p1 := hp.n1
  have p2 := hp.n2
  have r1 := hr.n1
  have r2 := hr.n2
  show WSs X _ [some (vr p), some (vr r)] M _
  repeat (walk_at "s")
  exact ⟨_, _, rfl, mul_ne hp.pos hr.pos, big_mul p2 r2, M, LeM.refl, q⟩
theorem df_ldif {E : Ev} (D1 : E.df 1 "_law_rat" ["_law_over", "_law_under"] spRat) (T : Tx E "_law_dif" (top 37) ["_law_one", "_law_two"]) : E.df 2 "_law_dif" ["_law_one", "_law_two"] (spBin rdif) := by
  refine T.df ["_law_one", "_law_two"] ⟨rfl, rfl, rfl, by decide +kernel, rfl, by decide +kernel, by decide +kernel⟩ (fun ws M Q ⟨a, b, e, _⟩ => by rw [e]; rfl) fun X B ws M Q ⟨p, r, e, hp, hr, q⟩ => ?_
  subst e
  have p1 := hp.n1
  have p2 := hp.n2
  have r1 := hr.n1
  have r2 := hr.n2
  show WSs X _ [some (vr p), some (vr r)] M _
  repeat (walk_at "s")
  exact ⟨_, _, rfl, mul_ne hp.pos hr.pos, big_mul p2 r2, M, LeM.refl, q⟩
theorem df_lprod {E : Ev} (D1 : E.df 1 "_law_rat" ["_law_over", "_law_under"] spRat) (T : Tx E "_law_prod" (top 38) ["_law_one", "_law_two"]) : E.df 2 "_law_prod" ["_law_one", "_law_two"] (spBin rprod) := by
  refine T.df ["_law_one", "_law_two"] ⟨rfl, rfl, rfl, by decide +kernel, rfl, by decide +kernel, by decide +kernel⟩ (fun ws M Q ⟨a, b, e, _⟩ => by rw [e]; rfl) fun X B ws M Q ⟨p, r, e, hp, hr, q⟩ => ?_
  subst e
  have p1 := hp.n1
  have p2 := hp.n2
  have r1 := hr.n1
  have r2 := hr.n2
  show WSs X _ [some (vr p), some (vr r)] M _
  repeat (walk_at "s")
  exact ⟨_, _, rfl, mul_ne hp.pos hr.pos, big_mul p2 r2, M, LeM.refl, q⟩
theorem df_lquo {E : Ev} (D1 : E.df 1 "_law_rat" ["_law_over", "_law_under"] spRat) (T : Tx E "_law_quo" (top 39) ["_law_one", "_law_two"]) : E.df 2 "_law_quo" ["_law_one", "_law_two"] spQuo := by
  refine T.df ["_law_one", "_law_two"] ⟨rfl, rfl, rfl, by decide +kernel, rfl, by decide +kernel, by decide +kernel⟩ (fun ws M Q ⟨a, b, e, _⟩ => by rw [e]; rfl) fun X B ws M Q ⟨p, r, e, hp, hr, hn, q⟩ => ?_
  subst e
  have p1 := hp.n1
  have p2 := hp.n2
  have r1 := hr.n1
  have r2 := hr.n2
  show WSs X _ [some (vr p), some (vr r)] M _
  repeat (walk_at "s")
  exact ⟨_, _, rfl, (by intro z; rcases Int.mul_eq_zero.mp z with z | z; · have := hp.pos; omega
                        · exact hn z), big_mul p2 r1, M, LeM.refl, q⟩
theorem df_lcomp {E : Ev} (T : Tx E "_law_comp" (top 40) ["_law_one", "_law_two"]) : E.df 1 "_law_comp" ["_law_one", "_law_two"] spComp := by
  refine T.df ["_law_one", "_law_two"] ⟨rfl, rfl, rfl, by decide +kernel, rfl, by decide +kernel, by decide +kernel⟩ (fun ws M Q ⟨a, b, e, _⟩ => by rw [e]; rfl) fun X B ws M Q ⟨p, r, e, hp, hr, q⟩ => ?_
  subst e
  have p1 := hp.n1
  have p2 := hp.n2
  have r1 := hr.n1
  have r2 := hr.n2
  show WSs X _ [some (vr p), some (vr r)] M _
  repeat (walk_at "s")
  exact ⟨M, LeM.refl, q⟩
theorem df_lratio {E : Ev} (D1 : E.df 2 "_law_any" ["_law_bag_here", "_law_some"] spAny) (D2 : E.df 1 "_law_draw" ["_law_bag_here", "_law_many"] spDraw) (D3 : E.df 1 "_law_rat" ["_law_over", "_law_under"] spRat) (T : Tx E "_law_ratio" (top 43) ["_law_bag_here", "_law_reach"]) : E.df 3 "_law_ratio" ["_law_bag_here", "_law_reach"] spRatio := by
  refine T.df ["_law_bag_here", "_law_reach", "_law_low", "_law_room"] ⟨rfl, rfl, rfl, by decide +kernel, rfl, by decide +kernel, by decide +kernel⟩ (fun ws M Q ⟨a, b, e, _⟩ => by rw [e]; rfl) fun X B ws M Q ⟨b, reach, e, hb, h0, h1, q⟩ => ?_
  subst e
  show WSs X _ [some (.ref b), some (.int reach), none, none] M _
  repeat (walk_at "s")
  refine ⟨by show 8 ≤ sizeLine; decide, fun p np => ?_⟩
  repeat (walk_at "s")
  have hb' : (updM M p (.lst [.int 1, .int 1, .int 2, .int 2, .int 3, .int 4, .int 7, .int 60])) b = some .bag := by rw [updM_ne (neM hb np)]; exact hb
  refine ⟨b, _, _, rfl, hb', .ref updM_same, by show 0 < 8; decide, by show 8 < 1000000; decide, fun x hx => ?_⟩
  obtain ⟨lo, rfl, l1, l2⟩ : ∃ lo : Int, x = .int lo ∧ 1 ≤ lo ∧ lo ≤ 60 := by
    simp only [List.mem_cons, List.not_mem_nil, or_false] at hx
    rcases hx with h | h | h | h | h | h | h | h <;> exact ⟨_, h, by decide, by decide⟩
  repeat (walk_at "s")
  have m0 : 0 ≤ reach * lo := Int.mul_nonneg h0 (by omega)
  have m1 : reach * lo ≤ 6000 := by
    have := Int.mul_le_mul h1 l2 (by omega) (by omega)
    omega
  generalize reach * lo = room at m0 m1
  repeat (walk_at "s")
  refine ⟨b, _, rfl, hb', by omega, by omega, fun r r0 r1 => ?_⟩
  repeat (walk_at "s")
  refine ⟨_, _, rfl, by omega, Nat.lt_of_lt_of_le (show lo.natAbs < 2 ^ 13 by omega) (Nat.pow_le_pow_right (by decide) (by decide)), M, LeM.new np, q _ ?_⟩
  exact nrm_bits (by omega) (show (r - room).natAbs < 2 ^ 14 by omega) (show lo.natAbs < 2 ^ 14 by omega)
theorem df_lspot {E : Ev} (D1 : E.df 3 "_law_ratio" ["_law_bag_here", "_law_reach"] spRatio) (T : Tx E "_law_spot" (top 44) ["_law_bag_here", "_law_reach"]) : E.df 4 "_law_spot" ["_law_bag_here", "_law_reach"] spSpot := by
  refine T.df ["_law_bag_here", "_law_reach"] ⟨rfl, rfl, rfl, by decide +kernel, rfl, by decide +kernel, by decide +kernel⟩ (fun ws M Q ⟨a, b, e, _⟩ => by rw [e]; rfl) fun X B ws M Q ⟨b, reach, e, hb, h0, h1, q⟩ => ?_
  subst e
  show WSs X _ [some (.ref b), some (.int reach)] M _
  repeat (walk_at "s")
  refine ⟨b, reach, rfl, hb, h0, h1, fun x hx => ?_⟩
  repeat (walk_at "s")
  refine ⟨b, reach, rfl, hb, h0, h1, fun y hy => ?_⟩
  repeat (walk_at "s")
  exact ⟨by show 2 ≤ sizeLine; decide, M, LeM.refl, q (x, y) ⟨hx, hy⟩⟩
end G3

set_option Elab.async false
set_option linter.all false
set_option maxRecDepth 100000
set_option maxHeartbeats 4000000
set_option pp.maxSteps 1000
namespace G3
open PySem PySem.Spec L2
local macro_rules | `(tactic| walk_at "at") => `(tactic| with_reducible (repeat (first | exact At.here | apply At.there)))
local macro_rules | `(tactic| walk_at "vis") => `(tactic| first | exact Or.inl rfl | exact Or.inr (Or.inl rfl) | exact Or.inr (Or.inr rfl))
local macro_rules | `(tactic| walk_at "loc") => `(tactic| first | exact Or.inl rfl | exact Or.inr rfl)
local macro_rules | `(tactic| walk_at "as") => `(tactic| with_reducible assumption)
local macro_rules | `(tactic| walk_at "e") => `(tactic| first
  | ((with_reducible show G3.WE _ (.Name _ _) _ _ _); first | refine we_nm (by walk_at "as") (by walk_at "at") (by walk_at "vis") (by rfl) ?_ | refine we_tyn (by walk_at "as") (by rfl) (by walk_at "as") (by walk_at "as") ?_ | refine we_cls (C := He.ga _ _) (by walk_at "as") (by rfl) (by walk_at "as") ?_ | refine we_nmH (by walk_at "as") (by walk_at "at") (by walk_at "vis") (by rfl) ?_ | refine we_tynH (by walk_at "as") (by rfl) (by walk_at "as") (by walk_at "as") ?_ | refine we_clsH (C := He.ga _ _) (by walk_at "as") (by rfl) (by walk_at "as") ?_)
  | ((with_reducible show G3.WE _ (.Constant (.int _) _ _) _ _ _); refine we_int ?_)
  | ((with_reducible show G3.WE _ (.Subscript _ (.Slice _ _ (some _) _) _) _ _ _); refine we_rev ?_)
  | ((with_reducible show G3.WE _ (.Subscript _ (.Slice _ _ none _) _) _ _ _); refine we_slice ?_)
  | ((with_reducible show G3.WE _ (.Subscript _ _ _) _ _ _); refine we_ix ?_)
  | ((with_reducible show G3.WE _ (.BinOp _ _ _ _) _ _ _); refine we_op ?_)
  | ((with_reducible show G3.WE _ (.Call (.Name _ _) _ _ _) _ _ _); first
      | refine we_call (by walk_at "as") (by walk_at "as") (by decide) (by rfl) ?_
      | refine we_callB (by walk_at "as") (by rfl) (by walk_at "as") (by walk_at "as") ?_
      | refine we_callTy (by walk_at "as") (by rfl) (by walk_at "as") (by walk_at "as") ?_
      | refine we_callX (by walk_at "as") (by walk_at "as") (by walk_at "as") (by decide) (by rfl) (by walk_at "as") ?_
      | refine we_callBH (by walk_at "as") (by rfl) (by walk_at "as") (by walk_at "as") ?_)
  | ((with_reducible show G3.WE _ (.Attribute _ _ _) _ _ _); first | refine we_fld (by walk_at "as") ?_ | refine we_xfH (by walk_at "as") (by walk_at "as") (by walk_at "as") (by walk_at "as") ?_)
  | ((with_reducible show G3.WE _ (.Tuple _ _ _) _ _ _); refine we_tup ?_)
  | ((with_reducible show G3.WE _ (.List _ _) _ _ _); first | refine we_lstN ?_ | refine we_lst ?_)
  | ((with_reducible show G3.WE _ (.Compare _ [_] _ _) _ _ _); refine we_cmp ?_)
  | ((with_reducible show G3.WE _ (.Compare _ [_, _] _ _) _ _ _); refine we_chain ?_)
  | ((with_reducible show G3.WE _ (.UnaryOp .Not _ _) _ _ _); refine we_not ?_)
  | ((with_reducible show G3.WE _ (.UnaryOp _ _ _) _ _ _); refine we_un ?_)
  | ((with_reducible show G3.WE _ (.IfExp _ _ _ _) _ _ _); refine we_if ?_)
  | ((with_reducible show G3.WE _ (.Constant _ _ _) _ _ _); first | refine we_bl ?_ | refine we_non ?_ | refine we_str ?_)
  | ((with_reducible show G3.WE _ (.JoinedStr (_ :: _ :: _) _) _ _ _); refine we_joined ?_)
  | ((with_reducible show G3.WE _ (.FormattedValue _ _ _ _) _ _ _); refine we_fmt ?_)
  | ((with_reducible show G3.WE _ (.BoolOp _ [_] _) _ _ _); refine we_one ?_)
  | ((with_reducible show G3.WE _ (.BoolOp .And _ _) _ _ _); refine we_and ?_)
  | ((with_reducible show G3.WE _ (.BoolOp .Or _ _) _ _ _); refine we_or ?_))
local macro_rules | `(tactic| walk_at "t") => `(tactic| first
  | ((with_reducible show WT _ (.Compare _ [_] _ _) _ _ _); refine wt_cmp ?_)
  | ((with_reducible show WT _ (.Compare _ [_, _] _ _) _ _ _); refine wt_chain ?_)
  | ((with_reducible show WT _ (.UnaryOp .Not _ _) _ _ _); refine wt_not ?_)
  | ((with_reducible show WT _ (.BoolOp .And _ _) _ _ _); refine wt_w (ww_and ?_))
  | ((with_reducible show WT _ (.BoolOp .Or _ _) _ _ _); refine wt_w (ww_or ?_))
  | refine wt_truth ?_)
local macro_rules | `(tactic| walk_at "w") => `(tactic| first
  | ((with_reducible show WW _ (.BoolOp .And [_] _) _ _ _); refine ww_and1 ?_)
  | ((with_reducible show WW _ (.BoolOp .Or [_] _) _ _ _); refine ww_or1 ?_)
  | ((with_reducible show WW _ (.BoolOp .And _ _) _ _ _); refine ww_and ?_)
  | ((with_reducible show WW _ (.BoolOp .Or _ _) _ _ _); refine ww_or ?_))
local macro_rules | `(tactic| walk_at "st") => `(tactic| first
  | ((with_reducible show WS _ (.Assign [.Name _ _] (.ListComp _ _ _ _) _) _ _ _); fail)
  | ((with_reducible show WS _ (.Assign [.Name _ _] _ _) _ _ _); first | refine ws_set (by walk_at "as") (by walk_at "at") (by walk_at "loc") ?_ | refine ws_setH (by walk_at "as") (by walk_at "at") (by walk_at "loc") ?_)
  | ((with_reducible show WS _ (.Return (some _) _) _ _ _); refine ws_ret ?_)
  | ((with_reducible show WS _ (.If _ _ _ _) _ _ _); refine ws_if ?_)
  | ((with_reducible show WS _ (.Expr (.Call (.Attribute _ "append" _) _ _ _) _) _ _ _); refine ws_append ?_)
  | ((with_reducible show WS _ (.Expr (.Call (.Attribute _ "insert" _) _ _ _) _) _ _ _); refine ws_insert ?_)
  | ((with_reducible show WS _ (.Expr _ _) _ _ _); refine ws_expr ?_)
  | ((with_reducible show WS _ (.Assign [.Tuple _ _ _] (.Tuple _ _ _) _) _ _ _); first
      | refine ws_par2 (by walk_at "as") (by walk_at "at") (by walk_at "at") (by rfl) (by rfl) (by rfl) (by rfl) ?_
      | refine ws_asgT (by walk_at "as") (by rfl) ?_)
  | ((with_reducible show WS _ (.Raise (some _) none _) _ _ _); refine ws_raise (by walk_at "as") (by walk_at "as") ?_)
  | ((with_reducible show WS _ (.Assign [_] _ _) _ _ _); (fail_if_success (with_reducible show WS _ (.Assign [.Attribute _ _ _] _ _) _ _ _)); refine ws_asg ?_)
  | ((with_reducible show WS _ (.Return none _) _ _ _); refine ws_retN ?_)
  | ((with_reducible show WS _ (.Pass _) _ _ _); refine ws_pass ?_)
  | ((with_reducible show WS _ (.Break _) _ _ _); refine ws_break ?_)
  | ((with_reducible show WS _ (.Continue _) _ _ _); refine ws_continue ?_))
local macro_rules | `(tactic| walk_at "mul") => `(tactic| with_unfolding_all first
  | exact cml (by decide) (by decide)
  | exact cmr (by decide) (by decide)
  | exact cmw (by with_reducible assumption) (by with_reducible assumption) (by decide) (by decide) (by decide)
  | exact cml (by omega) (by omega)
  | exact cmr (by omega) (by omega))
local macro_rules | `(tactic| walk_at "o2") => `(tactic| with_reducible first
  | refine o2_add ?_
  | refine o2_sub ?_
  | refine o2_mul (by walk_at "mul") ?_
  | refine o2_lt ?_
  | refine o2_le ?_
  | refine o2_gt ?_
  | refine o2_ge ?_
  | refine o2_eqi ?_
  | refine o2_nei ?_
  | refine o2_eqb ?_
  | refine o2_neb ?_
  | refine o2_eqs ?_
  | refine o2_nes ?_
  | refine o2_isN ?_
  | refine o2_notN ?_)
local macro_rules | `(tactic| walk_at "x") => `(tactic| first
  | ((with_reducible show G3.WE _ _ _ _ _); walk_at "e")
  | ((with_reducible show WA _ _ _ _ _); first | refine wa_cons ?_ | refine wa_nil ?_)
  | ((with_reducible show WMk _ (.Call (.Name _ _) [] _ _) _ _ _); refine wmk_own0 (by walk_at "as") (by walk_at "as") (by decide) (by rfl) ?_)
  | ((with_reducible show WO _ _ _ _ _); first | (show G3.WE _ _ _ _ _))
  | ((with_reducible show WT _ _ _ _ _); walk_at "t")
  | ((with_reducible show G3.WJ _ _ _ _ _ _); first | refine wj_cons ?_ | refine wj_nil ?_)
  | ((with_reducible show G3.WK _ _ _ _ _); first | refine wk_cons ?_ | refine wk_nil ?_)
  | ((with_reducible show WW _ _ _ _ _); walk_at "w")
  | ((with_reducible show WS _ _ _ _ _); walk_at "st")
  | ((with_reducible show O2 _ _ _ _ _ _); walk_at "o2")
  | ((with_reducible show OI _ (.tup _) _ _ _); refine oi_tup rfl ?_)
  | ((with_reducible show OC _ _ _ _ _); with_reducible first | refine oc_abs ?_ | refine oc_int ?_ | refine oc_intb ?_ | refine oc_lenT ?_)
  | ((with_reducible show O1 _ _ _ _ _); refine o1_neg ?_)
  | ((with_reducible show BQ _ _ _); refine ⟨_, rfl, ?_⟩)
  | ((with_reducible show WG _ _ _ _ _ _); first | refine wg_name (by walk_at "as") (by walk_at "at") (by walk_at "loc") ?_ | refine wg_tup (by walk_at "as") ?_)
  | ((with_reducible show WGs _ _ _ _ _ _); first | refine wgs_cons (by walk_at "as") (by walk_at "at") (by walk_at "loc") ?_ | refine wgs_nil ?_))
local macro_rules | `(tactic| walk_at "s") => `(tactic| first
  | walk_at "x"
  | ((with_reducible show WSs _ _ _ _ _); first | refine wss_cons ?_ | refine wss_nil ?_))
theorem df_on_wayW {E : Ev} (D1 : E.df 3 "plus" ["one", "other"] (spBin rsum)) (D2 : E.df 3 "minus" ["one", "other"] (spBin rdif)) (D3 : E.df 3 "times" ["one", "other"] (spBin rprod))
    (T : Tx E "on_way" (top 16) ["one", "other", "share"]) : E.df 4 "on_way" ["one", "other", "share"] spOnW := by
  refine T.df ["one", "other", "share", "x", "y"] ⟨rfl, rfl, rfl, by decide +kernel, rfl, by decide +kernel, by decide +kernel⟩ (fun ws M Q ⟨a, b, c, _, _, e, _⟩ => by rw [e]; rfl) fun X B ws M Q ⟨a, b, t, n, m, e, ha, hb, ht, hn, q⟩ => ?_
  subst e
  show WSs X _ [some (vsp a), some (vsp b), some (vr t), none, none] M _
  have dx := hb.x.dif ha.x
  have dy := hb.y.dif ha.y
  have px := ht.prod dx
  have py := ht.prod dy
  repeat (walk_at "s")
  refine ⟨_, _, rfl, hb.x.mono (by omega), ha.x.mono (by omega), ?_⟩
  repeat (walk_at "s")
  refine ⟨_, _, rfl, ht.mono (by omega), dx.mono (by omega), ?_⟩
  repeat (walk_at "s")
  refine ⟨_, _, rfl, ha.x.mono (by omega), px.mono (by omega), ?_⟩
  repeat (walk_at "s")
  refine ⟨_, _, rfl, hb.y.mono (by omega), ha.y.mono (by omega), ?_⟩
  repeat (walk_at "s")
  refine ⟨_, _, rfl, ht.mono (by omega), dy.mono (by omega), ?_⟩
  repeat (walk_at "s")
  refine ⟨_, _, rfl, ha.y.mono (by omega), py.mono (by omega), ?_⟩
  repeat (walk_at "s")
  exact ⟨by show 2 ≤ sizeLine; decide, M, LeM.refl, q⟩
theorem df_narrowed {E : Ev} (hN : ∃ a, E.mg "NOUGHT" = some (.ref a) ∧ ∀ H, Rv E.K H (.ref a) (vr (0, 1))) (D1 : E.df 3 "minus" ["one", "other"] (spBin rdif)) (D2 : E.df 3 "divided" ["one", "other"] spQuo) (D3 : E.df 2 "less" ["one", "other"] spLess)
    (T : Tx E "narrowed" (top 23) ["span", "start", "far", "low", "high"]) : E.df 4 "narrowed" ["span", "start", "far", "low", "high"] spNarrow := by
  refine T.df ["span", "start", "far", "low", "high", "first", "last", "ends"] ⟨rfl, rfl, rfl, by decide +kernel, rfl, by decide +kernel, by decide +kernel⟩ (fun ws M Q ⟨_, _, _, _, _, _, _, _, e, _⟩ => by rw [e]; rfl) fun X B ws M Q ⟨⟨a, b⟩, s, f, lo, hi, na, nm, nl, e, ha, hb, hs, hf, fz, hl, hh, hn, q⟩ => ?_
  subst e
  obtain ⟨aN, mN, rN⟩ := hN
  have bs : RB BIG s := hs.mono (by omega)
  have bl : RB BIG lo := hl.mono (by omega)
  have bh : RB BIG hi := hh.mono (by omega)
  have bf : RB BIG f := hf.mono (by omega)
  show WSs X _ [some (vs2 (a, b)), some (vr s), some (vr f), some (vr lo), some (vr hi), none, none, none] M _
  unfold narrowF at q
  repeat (walk_at "s")
  refine we_glr B rfl mN rN ?_
  refine o2_eqRt B.room.units ?_
  refine ⟨_, rfl, ?_⟩
  refine ite_dec (fun c => ?_) (fun c => ?_)
  · rw [if_pos c] at q
    repeat (walk_at "s")
    refine ⟨_, _, rfl, bs, bl, _, .bl _, ?_⟩
    refine ite_dec (fun c1 => ?_) (fun c1 => ?_)
    · rw [if_pos (.inl c1)] at q
      refine iteT ?_
      repeat (walk_at "s")
      exact ⟨M, LeM.refl, q⟩
    · repeat (walk_at "s")
      refine ⟨_, _, rfl, bh, bs, _, .bl _, ?_⟩
      refine ite_dec (fun c2 => ?_) (fun c2 => ?_)
      · rw [if_pos (.inr c2)] at q
        repeat (walk_at "s")
        exact ⟨M, LeM.refl, q⟩
      · rw [if_neg (fun z => z.elim c1 c2)] at q
        repeat (walk_at "s")
        exact ⟨M, LeM.refl, q⟩
  · rw [if_neg c] at q
    have c1 : f.1 ≠ 0 := fun z => c (fz z)
    have q1 : RB BIG (rquo (rdif lo s) f) := ((hl.dif hs).quo hf c1).mono (by omega)
    have q2 : RB BIG (rquo (rdif hi s) f) := ((hh.dif hs).quo hf c1).mono (by omega)
    repeat (walk_at "s")
    refine ⟨_, _, rfl, bl, bs, ?_⟩
    repeat (walk_at "s")
    refine ⟨_, _, rfl, (hl.dif hs).mono (by omega), bf, c1, ?_⟩
    repeat (walk_at "s")
    refine ⟨_, _, rfl, bh, bs, ?_⟩
    repeat (walk_at "s")
    refine ⟨_, _, rfl, (hh.dif hs).mono (by omega), bf, c1, ?_⟩
    repeat (walk_at "s")
    refine ⟨by show 2 ≤ sizeLine; decide, fun p np => ?_⟩
    generalize rquo (rdif lo s) f = r1 at q q1 ⊢
    generalize rquo (rdif hi s) f = r2 at q q2 ⊢
    dsimp only at q
    refine wss_cut (fun σ M' => ∃ (w : VV) (r r' : Rt), LeM M M' ∧ Lst M' w [vr r, vr r'] ∧ σ = [some (vs2 (a, b)), some (vr s), some (vr f), some (vr lo), some (vr hi), some (vr a), some (vr b), some (w)] ∧ RB BIG r ∧ RB BIG r' ∧ r = (if rcomp r2 r1 < 0 then r2 else r1) ∧ r' = (if rcomp r2 r1 < 0 then r1 else r2)) ?_ ?_
    · repeat (walk_at "s")
      refine oi_lst (.ref updM_same) rfl ?_
      repeat (walk_at "s")
      refine oi_lst (.ref updM_same) rfl ?_
      repeat (walk_at "s")
      refine ⟨_, _, rfl, q2, q1, _, .bl _, ?_⟩
      refine ite_dec (fun c2 => ?_) (fun c2 => ?_)
      · repeat (walk_at "s")
        refine ⟨_, .ref updM_same, fun p' np' => ?_⟩
        repeat (walk_at "s")
        exact ⟨.ref p', r2, r1, (LeM.new np).trans (LeM.new np'), .ref updM_same, rfl, q2, q1, by rw [if_pos c2], by rw [if_pos c2]⟩
      · repeat (walk_at "s")
        exact ⟨.ref p, r1, r2, LeM.new np, .ref updM_same, rfl, q1, q2, by rw [if_neg c2], by rw [if_neg c2]⟩
    rintro σ M' ⟨w, r, r', le, hw, rfl, hr, hr', e1, e2⟩
    rw [← e1, ← e2] at q
    refine wss_cut (fun σ M2 => ∃ x : Rt, M' = M2 ∧ σ = [some (vs2 (a, b)), some (vr s), some (vr f), some (vr lo), some (vr hi), some (vr x), some (vr b), some (w)] ∧ RB BIG x ∧ x = if rcomp a r < 0 then r else a) ?_ ?_
    · repeat (walk_at "s")
      refine oi_lst hw rfl ?_
      repeat (walk_at "s")
      refine ⟨_, _, rfl, ha, hr, _, .bl _, ?_⟩
      refine ite_dec (fun c2 => ?_) (fun c2 => ?_)
      · repeat (walk_at "s")
        refine oi_lst hw rfl ?_
        exact ⟨r, rfl, rfl, hr, by rw [if_pos c2]⟩
      · repeat (walk_at "s")
        exact ⟨a, rfl, rfl, ha, by rw [if_neg c2]⟩
    rintro σ M2 ⟨x, rfl, rfl, hx, ex⟩
    rw [← ex] at q
    refine wss_cut (fun σ M2 => ∃ y : Rt, M' = M2 ∧ σ = [some (vs2 (a, b)), some (vr s), some (vr f), some (vr lo), some (vr hi), some (vr x), some (vr y), some (w)] ∧ RB BIG y ∧ y = if rcomp r' b < 0 then r' else b) ?_ ?_
    · repeat (walk_at "s")
      refine oi_lst hw rfl ?_
      repeat (walk_at "s")
      refine ⟨_, _, rfl, hr', hb, _, .bl _, ?_⟩
      refine ite_dec (fun c2 => ?_) (fun c2 => ?_)
      · repeat (walk_at "s")
        refine oi_lst hw rfl ?_
        exact ⟨r', rfl, rfl, hr', by rw [if_pos c2]⟩
      · repeat (walk_at "s")
        exact ⟨b, rfl, rfl, hb, by rw [if_neg c2]⟩
    rintro σ M2 ⟨y, rfl, rfl, hy, ey⟩
    rw [← ey] at q
    repeat (walk_at "s")
    refine ⟨_, _, rfl, hy, hx, _, .bl _, ?_⟩
    refine ite_dec (fun c2 => ?_) (fun c2 => ?_)
    · rw [if_pos c2] at q
      repeat (walk_at "s")
      exact ⟨M, le, q⟩
    · rw [if_neg c2] at q
      repeat (walk_at "s")
      exact ⟨by show 2 ≤ sizeLine; decide, M, le, q⟩
theorem df_sorted_two {E : Ev} (D3 : E.df 2 "less" ["one", "other"] spLess) (T : Tx E "sorted_two" (top 25) ["one", "other"]) : E.df 3 "sorted_two" ["one", "other"] spSort2 := by
  refine T.df ["one", "other"] ⟨rfl, rfl, rfl, by decide +kernel, rfl, by decide +kernel, by decide +kernel⟩ (fun ws M Q ⟨_, _, e, _⟩ => by rw [e]; rfl) fun X B ws M Q ⟨a, b, e, ha, hb, q⟩ => ?_
  subst e
  show WSs X _ [some (vr a), some (vr b)] M _
  unfold sort2 at q
  repeat (walk_at "s")
  refine ⟨_, _, rfl, hb, ha, _, .bl _, ?_⟩
  refine ite_dec (fun c => ?_) (fun c => ?_)
  · rw [if_pos c] at q
    repeat (walk_at "s")
    exact ⟨by show 2 ≤ sizeLine; decide, M, LeM.refl, q⟩
  · rw [if_neg c] at q
    repeat (walk_at "s")
    exact ⟨by show 2 ≤ sizeLine; decide, M, LeM.refl, q⟩
theorem df_lean {E : Ev} (D1 : E.df 3 "minus" ["one", "other"] (spBin rdif)) (D3 : E.df 3 "times" ["one", "other"] (spBin rprod)) (T : Tx E "lean" (top 26) ["x", "y", "c", "spot"]) : E.df 4 "lean" ["x", "y", "c", "spot"] spLean := by
  refine T.df ["x", "y", "c", "spot"] ⟨rfl, rfl, rfl, by decide +kernel, rfl, by decide +kernel, by decide +kernel⟩ (fun ws M Q ⟨_, _, _, _, e, _⟩ => by rw [e]; rfl) fun X B ws M Q ⟨x, y, c, s, e, hx, hy, hc, hs, q⟩ => ?_
  subst e
  have d1 := hs.y.dif hc.y
  have d2 := hs.x.dif hc.x
  show WSs X _ [some (vr x), some (vr y), some (vsp c), some (vsp s)] M _
  repeat (walk_at "s")
  refine ⟨_, _, rfl, hs.y.big, hc.y.big, ?_⟩
  repeat (walk_at "s")
  refine ⟨_, _, rfl, hx.big, d1.big, ?_⟩
  repeat (walk_at "s")
  refine ⟨_, _, rfl, hs.x.big, hc.x.big, ?_⟩
  repeat (walk_at "s")
  refine ⟨_, _, rfl, hy.big, d2.big, ?_⟩
  repeat (walk_at "s")
  refine ⟨_, _, rfl, (hx.prod d1).big, (hy.prod d2).big, ?_⟩
  exact ⟨M, LeM.refl, q⟩
end G3

set_option Elab.async false
set_option linter.all false
set_option maxRecDepth 100000
set_option maxHeartbeats 4000000
set_option pp.maxSteps 1000
namespace G3
open PySem PySem.Spec L2
local macro_rules | `(tactic| walk_at "at") => `(tactic| with_reducible (repeat (first | exact At.here | apply At.there)))
local macro_rules | `(tactic| walk_at "vis") => `(tactic| first | exact Or.inl rfl | exact Or.inr (Or.inl rfl) | exact Or.inr (Or.inr rfl))
local macro_rules | `(tactic| walk_at "loc") => `(tactic| first | exact Or.inl rfl | exact Or.inr rfl)
local macro_rules | `(tactic| walk_at "as") => `(tactic| with_reducible assumption)
local macro_rules | `(tactic| walk_at "e") => `(tactic| first
  | ((with_reducible show G3.WE _ (.Name _ _) _ _ _); first | refine we_nm (by walk_at "as") (by walk_at "at") (by walk_at "vis") (by rfl) ?_ | refine we_tyn (by walk_at "as") (by rfl) (by walk_at "as") (by walk_at "as") ?_ | refine we_cls (C := He.ga _ _) (by walk_at "as") (by rfl) (by walk_at "as") ?_ | refine we_nmH (by walk_at "as") (by walk_at "at") (by walk_at "vis") (by rfl) ?_ | refine we_tynH (by walk_at "as") (by rfl) (by walk_at "as") (by walk_at "as") ?_ | refine we_clsH (C := He.ga _ _) (by walk_at "as") (by rfl) (by walk_at "as") ?_)
  | ((with_reducible show G3.WE _ (.Constant (.int _) _ _) _ _ _); refine we_int ?_)
  | ((with_reducible show G3.WE _ (.Subscript _ (.Slice _ _ (some _) _) _) _ _ _); refine we_rev ?_)
  | ((with_reducible show G3.WE _ (.Subscript _ (.Slice _ _ none _) _) _ _ _); refine we_slice ?_)
  | ((with_reducible show G3.WE _ (.Subscript _ _ _) _ _ _); refine we_ix ?_)
  | ((with_reducible show G3.WE _ (.BinOp _ _ _ _) _ _ _); refine we_op ?_)
  | ((with_reducible show G3.WE _ (.Call (.Name _ _) _ _ _) _ _ _); first
      | refine we_call (by walk_at "as") (by walk_at "as") (by decide) (by rfl) ?_
      | refine we_callB (by walk_at "as") (by rfl) (by walk_at "as") (by walk_at "as") ?_
      | refine we_callTy (by walk_at "as") (by rfl) (by walk_at "as") (by walk_at "as") ?_
      | refine we_callX (by walk_at "as") (by walk_at "as") (by walk_at "as") (by decide) (by rfl) (by walk_at "as") ?_
      | refine we_callBH (by walk_at "as") (by rfl) (by walk_at "as") (by walk_at "as") ?_)
  | ((with_reducible show G3.WE _ (.Attribute _ _ _) _ _ _); first | refine we_fld (by walk_at "as") ?_ | refine we_xfH (by walk_at "as") (by walk_at "as") (by walk_at "as") (by walk_at "as") ?_)
  | ((with_reducible show G3.WE _ (.Tuple _ _ _) _ _ _); refine we_tup ?_)
  | ((with_reducible show G3.WE _ (.List _ _) _ _ _); first | refine we_lstN ?_ | refine we_lst ?_)
  | ((with_reducible show G3.WE _ (.Compare _ [_] _ _) _ _ _); refine we_cmp ?_)
  | ((with_reducible show G3.WE _ (.Compare _ [_, _] _ _) _ _ _); refine we_chain ?_)
  | ((with_reducible show G3.WE _ (.UnaryOp .Not _ _) _ _ _); refine we_not ?_)
  | ((with_reducible show G3.WE _ (.UnaryOp _ _ _) _ _ _); refine we_un ?_)
  | ((with_reducible show G3.WE _ (.IfExp _ _ _ _) _ _ _); refine we_if ?_)
  | ((with_reducible show G3.WE _ (.Constant _ _ _) _ _ _); first | refine we_bl ?_ | refine we_non ?_ | refine we_str ?_)
  | ((with_reducible show G3.WE _ (.JoinedStr (_ :: _ :: _) _) _ _ _); refine we_joined ?_)
  | ((with_reducible show G3.WE _ (.FormattedValue _ _ _ _) _ _ _); refine we_fmt ?_)
  | ((with_reducible show G3.WE _ (.BoolOp _ [_] _) _ _ _); refine we_one ?_)
  | ((with_reducible show G3.WE _ (.BoolOp .And _ _) _ _ _); refine we_and ?_)
  | ((with_reducible show G3.WE _ (.BoolOp .Or _ _) _ _ _); refine we_or ?_))
local macro_rules | `(tactic| walk_at "t") => `(tactic| first
  | ((with_reducible show WT _ (.Compare _ [_] _ _) _ _ _); refine wt_cmp ?_)
  | ((with_reducible show WT _ (.Compare _ [_, _] _ _) _ _ _); refine wt_chain ?_)
  | ((with_reducible show WT _ (.UnaryOp .Not _ _) _ _ _); refine wt_not ?_)
  | ((with_reducible show WT _ (.BoolOp .And _ _) _ _ _); refine wt_w (ww_and ?_))
  | ((with_reducible show WT _ (.BoolOp .Or _ _) _ _ _); refine wt_w (ww_or ?_))
  | refine wt_truth ?_)
local macro_rules | `(tactic| walk_at "w") => `(tactic| first
  | ((with_reducible show WW _ (.BoolOp .And [_] _) _ _ _); refine ww_and1 ?_)
  | ((with_reducible show WW _ (.BoolOp .Or [_] _) _ _ _); refine ww_or1 ?_)
  | ((with_reducible show WW _ (.BoolOp .And _ _) _ _ _); refine ww_and ?_)
  | ((with_reducible show WW _ (.BoolOp .Or _ _) _ _ _); refine ww_or ?_))
local macro_rules | `(tactic| walk_at "st") => `(tactic| first
  | ((with_reducible show WS _ (.Assign [.Name _ _] (.ListComp _ _ _ _) _) _ _ _); fail)
  | ((with_reducible show WS _ (.Assign [.Name _ _] _ _) _ _ _); first | refine ws_set (by walk_at "as") (by walk_at "at") (by walk_at "loc") ?_ | refine ws_setH (by walk_at "as") (by walk_at "at") (by walk_at "loc") ?_)
  | ((with_reducible show WS _ (.Return (some _) _) _ _ _); refine ws_ret ?_)
  | ((with_reducible show WS _ (.If _ _ _ _) _ _ _); refine ws_if ?_)
  | ((with_reducible show WS _ (.Expr (.Call (.Attribute _ "append" _) _ _ _) _) _ _ _); refine ws_append ?_)
  | ((with_reducible show WS _ (.Expr (.Call (.Attribute _ "insert" _) _ _ _) _) _ _ _); refine ws_insert ?_)
  | ((with_reducible show WS _ (.Expr _ _) _ _ _); refine ws_expr ?_)
  | ((with_reducible show WS _ (.Assign [.Tuple _ _ _] (.Tuple _ _ _) _) _ _ _); first
      | refine ws_par2 (by walk_at "as") (by walk_at "at") (by walk_at "at") (by rfl) (by rfl) (by rfl) (by rfl) ?_
      | refine ws_asgT (by walk_at "as") (by rfl) ?_)
  | ((with_reducible show WS _ (.Raise (some _) none _) _ _ _); refine ws_raise (by walk_at "as") (by walk_at "as") ?_)
  | ((with_reducible show WS _ (.Assign [_] _ _) _ _ _); (fail_if_success (with_reducible show WS _ (.Assign [.Attribute _ _ _] _ _) _ _ _)); refine ws_asg ?_)
  | ((with_reducible show WS _ (.Return none _) _ _ _); refine ws_retN ?_)
  | ((with_reducible show WS _ (.Pass _) _ _ _); refine ws_pass ?_)
  | ((with_reducible show WS _ (.Break _) _ _ _); refine ws_break ?_)
  | ((with_reducible show WS _ (.Continue _) _ _ _); refine ws_continue ?_))
local macro_rules | `(tactic| walk_at "mul") => `(tactic| with_unfolding_all first
  | exact cml (by decide) (by decide)
  | exact cmr (by decide) (by decide)
  | exact cmw (by with_reducible assumption) (by with_reducible assumption) (by decide) (by decide) (by decide)
  | exact cml (by omega) (by omega)
  | exact cmr (by omega) (by omega))
local macro_rules | `(tactic| walk_at "o2") => `(tactic| with_reducible first
  | refine o2_add ?_
  | refine o2_sub ?_
  | refine o2_mul (by walk_at "mul") ?_
  | refine o2_lt ?_
  | refine o2_le ?_
  | refine o2_gt ?_
  | refine o2_ge ?_
  | refine o2_eqi ?_
  | refine o2_nei ?_
  | refine o2_eqb ?_
  | refine o2_neb ?_
  | refine o2_eqs ?_
  | refine o2_nes ?_
  | refine o2_isN ?_
  | refine o2_notN ?_)
local macro_rules | `(tactic| walk_at "x") => `(tactic| first
  | ((with_reducible show G3.WE _ _ _ _ _); walk_at "e")
  | ((with_reducible show WA _ _ _ _ _); first | refine wa_cons ?_ | refine wa_nil ?_)
  | ((with_reducible show WMk _ (.Call (.Name _ _) [] _ _) _ _ _); refine wmk_own0 (by walk_at "as") (by walk_at "as") (by decide) (by rfl) ?_)
  | ((with_reducible show WO _ _ _ _ _); first | (show G3.WE _ _ _ _ _))
  | ((with_reducible show WT _ _ _ _ _); walk_at "t")
  | ((with_reducible show G3.WJ _ _ _ _ _ _); first | refine wj_cons ?_ | refine wj_nil ?_)
  | ((with_reducible show G3.WK _ _ _ _ _); first | refine wk_cons ?_ | refine wk_nil ?_)
  | ((with_reducible show WW _ _ _ _ _); walk_at "w")
  | ((with_reducible show WS _ _ _ _ _); walk_at "st")
  | ((with_reducible show O2 _ _ _ _ _ _); walk_at "o2")
  | ((with_reducible show OI _ (.tup _) _ _ _); refine oi_tup rfl ?_)
  | ((with_reducible show OC _ _ _ _ _); with_reducible first | refine oc_abs ?_ | refine oc_int ?_ | refine oc_intb ?_ | refine oc_lenT ?_)
  | ((with_reducible show O1 _ _ _ _ _); refine o1_neg ?_)
  | ((with_reducible show BQ _ _ _); refine ⟨_, rfl, ?_⟩)
  | ((with_reducible show WG _ _ _ _ _ _); first | refine wg_name (by walk_at "as") (by walk_at "at") (by walk_at "loc") ?_ | refine wg_tup (by walk_at "as") ?_)
  | ((with_reducible show WGs _ _ _ _ _ _); first | refine wgs_cons (by walk_at "as") (by walk_at "at") (by walk_at "loc") ?_ | refine wgs_nil ?_))
local macro_rules | `(tactic| walk_at "s") => `(tactic| first
  | walk_at "x"
  | ((with_reducible show WSs _ _ _ _ _); first | refine wss_cons ?_ | refine wss_nil ?_))
def spanI (a b c d : Spt) (sl : Rt) (i : Nat) : Option Sp2 := if i = 0 then some ((0, 1), (1, 1)) else if i = 1 then nearWay false a b c d sl ((0, 1), (1, 1)) else (nearWay false a b c d sl ((0, 1), (1, 1))).bind (nearWay true a b c d sl)
theorem spanI_bits {a b c d : Spt} {sl : Rt} (ha : SB 36 a) (hb : SB 36 b) (hc : SB 36 c) (hd : SB 36 d) (hs : RB 443 sl) (i : Nat) : ∀ r, spanI a b c d sl i = some r → RB 590 r.1 ∧ RB 590 r.2 := fun r h => by
  unfold spanI at h
  have z1 : RB 590 (0, 1) := RB.zero.mono (by decide)
  have z2 : RB 590 (1, 1) := ⟨by decide, Nat.one_lt_two_pow (by decide), by decide⟩
  by_cases c0 : i = 0
  · rw [if_pos c0] at h; cases h; exact ⟨z1, z2⟩
  · rw [if_neg c0] at h
    by_cases c1 : i = 1
    · rw [if_pos c1] at h; exact way_bits ha hb hc hd hs z1 z2 h
    · rw [if_neg c1] at h
      obtain ⟨m, hm, h2⟩ := Option.bind_eq_some_iff.mp h
      obtain ⟨m1, m2⟩ := way_bits ha hb hc hd hs z1 z2 hm
      exact way_bits ha hb hc hd hs m1 m2 h2
theorem df_near_span {E : Ev} (hN : ∃ a, E.mg "NOUGHT" = some (.ref a) ∧ ∀ H, Rv E.K H (.ref a) (vr (0, 1))) (hO : ∃ a, E.mg "ONE" = some (.ref a) ∧ ∀ H, Rv E.K H (.ref a) (vr (1, 1)))
    (D1 : E.df 3 "minus" ["one", "other"] (spBin rdif)) (D2 : E.df 3 "plus" ["one", "other"] (spBin rsum)) (D3 : E.df 3 "times" ["one", "other"] (spBin rprod)) (D4 : E.df 1 "size" ["one"] spSize) (D5 : E.df 4 "narrowed" ["span", "start", "far", "low", "high"] spNarrow) (D6 : E.df 3 "sorted_two" ["one", "other"] spSort2) (D7 : E.df 4 "lean" ["x", "y", "c", "spot"] spLean)
    (T : Tx E "near_span" (top 24) ["piece", "other", "slack"]) : E.df 5 "near_span" ["piece", "other", "slack"] spNear := by
  refine T.df ["piece", "other", "slack", "a", "b", "c", "d", "span", "way", "low", "high", "far", "x", "y", "room", "start"] ⟨rfl, rfl, rfl, by decide +kernel, rfl, by decide +kernel, by decide +kernel⟩ (fun ws M Q ⟨_, _, _, _, _, e, _⟩ => by rw [e]; rfl) fun X B ws M Q ⟨a, b, c, d, sl, e, ha, hb, hc, hd, hs, q⟩ => ?_
  subst e
  obtain ⟨aN, mN, rN⟩ := hN
  obtain ⟨aO, mO, rO⟩ := hO
  show WSs X _ [some (vpp (a, b)), some (vpp (c, d)), some (vr sl), none, none, none, none, none, none, none, none, none, none, none, none, none] M _
  refine wss_cons ?_
  refine ws_asgT B (by rfl) ?_
  repeat (walk_at "x")
  refine ⟨by show 2 ≤ sizeLine; decide, ?_⟩
  refine wg_tup B ?_
  refine wgs_anyN ?_
  refine wg_tup B ?_
  repeat (walk_at "x")
  refine wgs_anyN ?_
  refine wg_tup B ?_
  repeat (walk_at "x")
  walk_at "s"
  repeat (walk_at "x")
  refine we_glr B rfl mN rN ?_
  repeat (walk_at "x")
  refine we_glr B rfl mO rO ?_
  repeat (walk_at "x")
  refine ⟨by show 2 ≤ sizeLine; decide, ?_⟩
  refine wss_cons ?_
  refine ws_for B ?_
  refine wi_tup ?_
  repeat (walk_at "x")
  refine ⟨by show 2 ≤ sizeLine; decide, _, rfl, ?_⟩
  refine ⟨fun i σ M' => M = M' ∧ ∃ o, o = spanI a b c d sl i ∧ ∃ (x8 x9 x10 x11 x12 x13 x14 x15 : Option VV), σ = [some (vpp (a, b)), some (vpp (c, d)), some (vr sl), some (vsp a), some (vsp b), some (vsp c), some (vsp d), some (optv o), x8, x9, x10, x11, x12, x13, x14, x15], ⟨rfl, _, rfl, _, _, _, _, _, _, _, _, rfl⟩, fun _ _ _ _ _ => trivial, ?_, ?_⟩
  · rintro i u σ M' hi hu ⟨rfl, o, eo, x8, x9, x10, x11, x12, x13, x14, x15, rfl⟩
    obtain ⟨k, eu, ek⟩ : ∃ k : Bool, u = .int (vB k) ∧ spanI a b c d sl (i + 1) = (spanI a b c d sl i).bind (nearWay k a b c d sl) := by
      have hi2 : i = 0 ∨ i = 1 := by
        have : i < 2 := hi
        omega
      rcases hi2 with rfl | rfl
      · refine ⟨false, ?_, rfl⟩
        have hu : some (VV.int 0) = some u := hu
        cases hu; rfl
      · refine ⟨true, ?_, rfl⟩
        have hu : some (VV.int 1) = some u := hu
        cases hu; rfl
    subst eu
    have bits := spanI_bits ha hb hc hd hs i
    rw [← eo] at ek bits
    clear hu hi eo
    obtain ⟨s1, s2⟩ := sort2_bits (hc.pk k) (hd.pk k)
    have df := (hb.pk k).dif (ha.pk k)
    walk_at "s"
    walk_at "s"
    repeat (walk_at "s")
    refine oi_tup (atI_pk k c) ?_
    repeat (walk_at "s")
    refine oi_tup (atI_pk k d) ?_
    repeat (walk_at "s")
    refine ⟨_, _, rfl, (hc.pk k).big, (hd.pk k).big, ?_⟩
    repeat (walk_at "s")
    cases o with
    | none =>
      refine iteF ?_
      repeat (walk_at "s")
      exact ⟨rfl, _, ek.symm, _, _, _, _, _, _, _, _, rfl⟩
    | some r =>
      obtain ⟨b1, b2⟩ := bits r rfl
      refine iteT ?_
      repeat (walk_at "s")
      refine oi_tup (atI_pk k b) ?_
      repeat (walk_at "s")
      refine oi_tup (atI_pk k a) ?_
      repeat (walk_at "s")
      refine ⟨_, _, rfl, (hb.pk k).big, (ha.pk k).big, ?_⟩
      repeat (walk_at "s")
      refine oi_tup (atI_pk k a) ?_
      repeat (walk_at "s")
      refine ⟨_, _, rfl, s1.big, hs.big, ?_⟩
      repeat (walk_at "s")
      refine ⟨_, _, rfl, s2.big, hs.big, ?_⟩
      repeat (walk_at "s")
      refine ⟨r, _, _, _, _, 36, 73, 480, rfl, b1.big, b2.big, ha.pk k, df.mono (by decide), nz_nrm (mul_ne (hb.pk k).pos (ha.pk k).pos), (s1.dif hs).mono (by decide), (s2.sum hs).mono (by decide), by decide, ?_⟩
      repeat (walk_at "s")
      exact ⟨rfl, _, ek.symm, _, _, _, _, _, _, _, _, rfl⟩
  · rintro σ M' ⟨rfl, o, eo, x8, x9, x10, x11, x12, x13, x14, x15, rfl⟩
    have eo : o = spanI a b c d sl 2 := eo
    have bits := spanI_bits ha hb hc hd hs 2
    have eb : nearF a b c d sl = (spanI a b c d sl 2).bind (nearLean a b c d sl) := rfl
    rw [eb] at q
    rw [← eo] at bits q
    clear eo eb
    have dx := (hd.x.dif hc.x).mono (m := 73) (by decide)
    have dy := (hd.y.dif hc.y).mono (m := 73) (by decide)
    have rm := room_bits hc hd hs
    have l1 := lean_bits dx dy hc ha
    have l2 := lean_bits dx dy hc hb
    repeat (walk_at "s")
    cases o with
    | none =>
      refine iteT ?_
      repeat (walk_at "s")
      exact ⟨M, LeM.refl, q⟩
    | some r =>
      obtain ⟨b1, b2⟩ := bits r rfl
      refine iteF ?_
      repeat (walk_at "s")
      refine ⟨_, _, rfl, hd.x.big, hc.x.big, ?_⟩
      repeat (walk_at "s")
      refine ⟨_, _, rfl, hd.y.big, hc.y.big, ?_⟩
      repeat (walk_at "s")
      refine ⟨_, _, rfl, ?_⟩
      repeat (walk_at "s")
      refine ⟨_, rfl, ?_⟩
      repeat (walk_at "s")
      refine ⟨_, rfl, ?_⟩
      repeat (walk_at "s")
      refine ⟨_, _, rfl, dx.abs.big, dy.abs.big, ?_⟩
      repeat (walk_at "s")
      refine ⟨_, _, rfl, hs.big, ((hd.x.dif hc.x).abs.sum (hd.y.dif hc.y).abs).big, ?_⟩
      repeat (walk_at "s")
      refine ⟨_, _, _, _, rfl, dx, dy, hc, ha, ?_⟩
      repeat (walk_at "s")
      refine ⟨_, _, _, _, rfl, dx, dy, hc, hb, ?_⟩
      repeat (walk_at "s")
      refine ⟨_, _, rfl, l2.big, l1.big, ?_⟩
      repeat (walk_at "s")
      refine we_glr B rfl mN rN ?_
      repeat (walk_at "s")
      refine ⟨(0, 1), _, rfl, RB.zero.big, rm.big, ?_⟩
      repeat (walk_at "s")
      refine ⟨r, _, _, _, _, 293, 587, 592, rfl, b1.big, b2.big, l1, (l2.dif l1).mono (by decide), nz_nrm (mul_ne l2.pos l1.pos), (RB.zero.dif rm).mono (by decide), rm.mono (by decide), by decide, ?_⟩
      exact ⟨M, LeM.refl, q⟩
end G3

set_option Elab.async false
set_option linter.all false
set_option maxRecDepth 100000
set_option maxHeartbeats 4000000
set_option pp.maxSteps 1000
namespace G3
open PySem PySem.Spec L2
local macro_rules | `(tactic| walk_at "at") => `(tactic| with_reducible (repeat (first | exact At.here | apply At.there)))
local macro_rules | `(tactic| walk_at "vis") => `(tactic| first | exact Or.inl rfl | exact Or.inr (Or.inl rfl) | exact Or.inr (Or.inr rfl))
local macro_rules | `(tactic| walk_at "loc") => `(tactic| first | exact Or.inl rfl | exact Or.inr rfl)
local macro_rules | `(tactic| walk_at "as") => `(tactic| with_reducible assumption)
local macro_rules | `(tactic| walk_at "e") => `(tactic| first
  | ((with_reducible show G3.WE _ (.Name _ _) _ _ _); first | refine we_nm (by walk_at "as") (by walk_at "at") (by walk_at "vis") (by rfl) ?_ | refine we_tyn (by walk_at "as") (by rfl) (by walk_at "as") (by walk_at "as") ?_ | refine we_cls (C := He.ga _ _) (by walk_at "as") (by rfl) (by walk_at "as") ?_ | refine we_nmH (by walk_at "as") (by walk_at "at") (by walk_at "vis") (by rfl) ?_ | refine we_tynH (by walk_at "as") (by rfl) (by walk_at "as") (by walk_at "as") ?_ | refine we_clsH (C := He.ga _ _) (by walk_at "as") (by rfl) (by walk_at "as") ?_)
  | ((with_reducible show G3.WE _ (.Constant (.int _) _ _) _ _ _); refine we_int ?_)
  | ((with_reducible show G3.WE _ (.Subscript _ (.Slice _ _ (some _) _) _) _ _ _); refine we_rev ?_)
  | ((with_reducible show G3.WE _ (.Subscript _ (.Slice _ _ none _) _) _ _ _); refine we_slice ?_)
  | ((with_reducible show G3.WE _ (.Subscript _ _ _) _ _ _); refine we_ix ?_)
  | ((with_reducible show G3.WE _ (.BinOp _ _ _ _) _ _ _); refine we_op ?_)
  | ((with_reducible show G3.WE _ (.Call (.Name _ _) _ _ _) _ _ _); first
      | refine we_call (by walk_at "as") (by walk_at "as") (by decide) (by rfl) ?_
      | refine we_callB (by walk_at "as") (by rfl) (by walk_at "as") (by walk_at "as") ?_
      | refine we_callTy (by walk_at "as") (by rfl) (by walk_at "as") (by walk_at "as") ?_
      | refine we_callX (by walk_at "as") (by walk_at "as") (by walk_at "as") (by decide) (by rfl) (by walk_at "as") ?_
      | refine we_callBH (by walk_at "as") (by rfl) (by walk_at "as") (by walk_at "as") ?_)
  | ((with_reducible show G3.WE _ (.Attribute _ _ _) _ _ _); first | refine we_fld (by walk_at "as") ?_ | refine we_xfH (by walk_at "as") (by walk_at "as") (by walk_at "as") (by walk_at "as") ?_)
  | ((with_reducible show G3.WE _ (.Tuple _ _ _) _ _ _); refine we_tup ?_)
  | ((with_reducible show G3.WE _ (.List _ _) _ _ _); first | refine we_lstN ?_ | refine we_lst ?_)
  | ((with_reducible show G3.WE _ (.Compare _ [_] _ _) _ _ _); refine we_cmp ?_)
  | ((with_reducible show G3.WE _ (.Compare _ [_, _] _ _) _ _ _); refine we_chain ?_)
  | ((with_reducible show G3.WE _ (.UnaryOp .Not _ _) _ _ _); refine we_not ?_)
  | ((with_reducible show G3.WE _ (.UnaryOp _ _ _) _ _ _); refine we_un ?_)
  | ((with_reducible show G3.WE _ (.IfExp _ _ _ _) _ _ _); refine we_if ?_)
  | ((with_reducible show G3.WE _ (.Constant _ _ _) _ _ _); first | refine we_bl ?_ | refine we_non ?_ | refine we_str ?_)
  | ((with_reducible show G3.WE _ (.JoinedStr (_ :: _ :: _) _) _ _ _); refine we_joined ?_)
  | ((with_reducible show G3.WE _ (.FormattedValue _ _ _ _) _ _ _); refine we_fmt ?_)
  | ((with_reducible show G3.WE _ (.BoolOp _ [_] _) _ _ _); refine we_one ?_)
  | ((with_reducible show G3.WE _ (.BoolOp .And _ _) _ _ _); refine we_and ?_)
  | ((with_reducible show G3.WE _ (.BoolOp .Or _ _) _ _ _); refine we_or ?_))
local macro_rules | `(tactic| walk_at "t") => `(tactic| first
  | ((with_reducible show WT _ (.Compare _ [_] _ _) _ _ _); refine wt_cmp ?_)
  | ((with_reducible show WT _ (.Compare _ [_, _] _ _) _ _ _); refine wt_chain ?_)
  | ((with_reducible show WT _ (.UnaryOp .Not _ _) _ _ _); refine wt_not ?_)
  | ((with_reducible show WT _ (.BoolOp .And _ _) _ _ _); refine wt_w (ww_and ?_))
  | ((with_reducible show WT _ (.BoolOp .Or _ _) _ _ _); refine wt_w (ww_or ?_))
  | refine wt_truth ?_)
local macro_rules | `(tactic| walk_at "w") => `(tactic| first
  | ((with_reducible show WW _ (.BoolOp .And [_] _) _ _ _); refine ww_and1 ?_)
  | ((with_reducible show WW _ (.BoolOp .Or [_] _) _ _ _); refine ww_or1 ?_)
  | ((with_reducible show WW _ (.BoolOp .And _ _) _ _ _); refine ww_and ?_)
  | ((with_reducible show WW _ (.BoolOp .Or _ _) _ _ _); refine ww_or ?_))
local macro_rules | `(tactic| walk_at "st") => `(tactic| first
  | ((with_reducible show WS _ (.Assign [.Name _ _] (.ListComp _ _ _ _) _) _ _ _); fail)
  | ((with_reducible show WS _ (.Assign [.Name _ _] _ _) _ _ _); first | refine ws_set (by walk_at "as") (by walk_at "at") (by walk_at "loc") ?_ | refine ws_setH (by walk_at "as") (by walk_at "at") (by walk_at "loc") ?_)
  | ((with_reducible show WS _ (.Return (some _) _) _ _ _); refine ws_ret ?_)
  | ((with_reducible show WS _ (.If _ _ _ _) _ _ _); refine ws_if ?_)
  | ((with_reducible show WS _ (.Expr (.Call (.Attribute _ "append" _) _ _ _) _) _ _ _); refine ws_append ?_)
  | ((with_reducible show WS _ (.Expr (.Call (.Attribute _ "insert" _) _ _ _) _) _ _ _); refine ws_insert ?_)
  | ((with_reducible show WS _ (.Expr _ _) _ _ _); refine ws_expr ?_)
  | ((with_reducible show WS _ (.Assign [.Tuple _ _ _] (.Tuple _ _ _) _) _ _ _); first
      | refine ws_par2 (by walk_at "as") (by walk_at "at") (by walk_at "at") (by rfl) (by rfl) (by rfl) (by rfl) ?_
      | refine ws_asgT (by walk_at "as") (by rfl) ?_)
  | ((with_reducible show WS _ (.Raise (some _) none _) _ _ _); refine ws_raise (by walk_at "as") (by walk_at "as") ?_)
  | ((with_reducible show WS _ (.Assign [_] _ _) _ _ _); (fail_if_success (with_reducible show WS _ (.Assign [.Attribute _ _ _] _ _) _ _ _)); refine ws_asg ?_)
  | ((with_reducible show WS _ (.Return none _) _ _ _); refine ws_retN ?_)
  | ((with_reducible show WS _ (.Pass _) _ _ _); refine ws_pass ?_)
  | ((with_reducible show WS _ (.Break _) _ _ _); refine ws_break ?_)
  | ((with_reducible show WS _ (.Continue _) _ _ _); refine ws_continue ?_))
local macro_rules | `(tactic| walk_at "mul") => `(tactic| with_unfolding_all first
  | exact cml (by decide) (by decide)
  | exact cmr (by decide) (by decide)
  | exact cmw (by with_reducible assumption) (by with_reducible assumption) (by decide) (by decide) (by decide)
  | exact cml (by omega) (by omega)
  | exact cmr (by omega) (by omega))
local macro_rules | `(tactic| walk_at "o2") => `(tactic| with_reducible first
  | refine o2_add ?_
  | refine o2_sub ?_
  | refine o2_mul (by walk_at "mul") ?_
  | refine o2_lt ?_
  | refine o2_le ?_
  | refine o2_gt ?_
  | refine o2_ge ?_
  | refine o2_eqi ?_
  | refine o2_nei ?_
  | refine o2_eqb ?_
  | refine o2_neb ?_
  | refine o2_eqs ?_
  | refine o2_nes ?_
  | refine o2_isN ?_
  | refine o2_notN ?_)
local macro_rules | `(tactic| walk_at "x") => `(tactic| first
  | ((with_reducible show G3.WE _ _ _ _ _); walk_at "e")
  | ((with_reducible show WA _ _ _ _ _); first | refine wa_cons ?_ | refine wa_nil ?_)
  | ((with_reducible show WMk _ (.Call (.Name _ _) [] _ _) _ _ _); refine wmk_own0 (by walk_at "as") (by walk_at "as") (by decide) (by rfl) ?_)
  | ((with_reducible show WO _ _ _ _ _); first | (show G3.WE _ _ _ _ _))
  | ((with_reducible show WT _ _ _ _ _); walk_at "t")
  | ((with_reducible show G3.WJ _ _ _ _ _ _); first | refine wj_cons ?_ | refine wj_nil ?_)
  | ((with_reducible show G3.WK _ _ _ _ _); first | refine wk_cons ?_ | refine wk_nil ?_)
  | ((with_reducible show WW _ _ _ _ _); walk_at "w")
  | ((with_reducible show WS _ _ _ _ _); walk_at "st")
  | ((with_reducible show O2 _ _ _ _ _ _); walk_at "o2")
  | ((with_reducible show OI _ (.tup _) _ _ _); refine oi_tup rfl ?_)
  | ((with_reducible show OC _ _ _ _ _); with_reducible first | refine oc_abs ?_ | refine oc_int ?_ | refine oc_intb ?_ | refine oc_lenT ?_)
  | ((with_reducible show O1 _ _ _ _ _); refine o1_neg ?_)
  | ((with_reducible show BQ _ _ _); refine ⟨_, rfl, ?_⟩)
  | ((with_reducible show WG _ _ _ _ _ _); first | refine wg_name (by walk_at "as") (by walk_at "at") (by walk_at "loc") ?_ | refine wg_tup (by walk_at "as") ?_)
  | ((with_reducible show WGs _ _ _ _ _ _); first | refine wgs_cons (by walk_at "as") (by walk_at "at") (by walk_at "loc") ?_ | refine wgs_nil ?_))
local macro_rules | `(tactic| walk_at "s") => `(tactic| first
  | walk_at "x"
  | ((with_reducible show WSs _ _ _ _ _); first | refine wss_cons ?_ | refine wss_nil ?_))
theorem df_in_order {E : Ev} (hL : E.mg "len" = none) (D1 : E.df 2 "less" ["one", "other"] spLess) (T : Tx E "in_order" (top 27) ["spans"]) : E.df 3 "in_order" ["spans"] spInOrder := by
  have bL := bb_len
  refine T.df ["spans", "found", "span", "place", "one"] ⟨rfl, rfl, rfl, by decide +kernel, rfl, by decide +kernel, by decide +kernel⟩ (fun ws M Q ⟨_, _, e, _⟩ => by rw [e]; rfl) fun X B ws M Q ⟨w, l, e, hw, hlen, hb, q⟩ => ?_
  subst e
  show WSs X _ [some (w), none, none, none, none] M _
  repeat (walk_at "s")
  refine ⟨by show 0 ≤ sizeLine; decide, fun F nF => ?_⟩
  have l0 := LeM.new (o := .lst []) nF
  have h0 : updM M F (.lst []) F = some (.lst (([] : List Sp2).map vs2)) := updM_same
  generalize updM M F (.lst []) = M0 at l0 h0
  repeat (walk_at "s")
  refine ws_forLst B ?_
  repeat (walk_at "x")
  refine ⟨_, hw.le l0, fun i σ M' => ∃ acc, acc = (l.take i).foldl insS [] ∧ LeM M M' ∧ M' F = some (.lst (acc.map vs2)) ∧ ∃ (x2 x3 x4 : Option VV), σ = [some (w), some (.ref F), x2, x3, x4], ⟨[], by rw [List.take_zero]; rfl, l0, h0, _, _, _, rfl⟩, fun i σ M' _ ⟨_, _, l2, _⟩ => hw.le l2, ?_, ?_⟩
  · rintro i u σ M' hi hu ⟨acc, ea, l1, hF, x2, x3, x4, rfl⟩
    rw [List.getElem?_map] at hu
    obtain ⟨s, hs, rfl⟩ := Option.map_eq_some_iff.mp hu
    have e2 : (l.take (i + 1)).foldl insS [] = insS acc s := by rw [List.take_add_one, hs, List.foldl_append, ea]; rfl
    have sb := hb s (List.mem_of_getElem? hs)
    have ap : acc.Perm (l.take i) := by rw [ea]; exact ordS_perm _
    have ab : ∀ o ∈ acc, RB BIG o.1 := fun o ho => (hb o (List.mem_of_mem_take (ap.mem_iff.mp ho))).1
    have al : acc.length ≤ 100 := by rw [ap.length_eq, List.length_take]; omega
    repeat (walk_at "s")
    refine we_lc B [("one", 4)] (by decide +kernel) (by decide) (pgI1 B (by walk_at "at") (by rfl)) ctg_name ?_
    refine wi_lst ?_
    repeat (walk_at "x")
    refine ⟨_, .ref hF, ?_⟩
    refine compI_filter acc (itm_lst (xs := acc) (v := vs2) (.ref hF) (Nat.le_trans al (by decide))) (fun o => !decide (rcomp s.1 o.1 < 0)) (fun o => vs2 o) ?_ ?_
    · rintro o u M2 ho rfl l2
      refine ⟨_, rfl, fun Y BY => ?_⟩
      show WT Y _ [some (w), some (.ref F), some (vs2 s), x3, some (vs2 o)] M2 _
      repeat (walk_at "s")
      refine ⟨_, _, rfl, sb.1, ab o ho, ?_⟩
      refine ⟨_, .bl _, rfl, LeM.refl, fun _ Y' BY' => ?_⟩
      show WE Y' _ [some (w), some (.ref F), some (vs2 s), x3, some (vs2 o)] M2 _
      repeat (walk_at "s")
      exact ⟨rfl, LeM.refl⟩
    intro D nD M2 l2
    have hD := l2 _ _ updM_same
    have l23 := (LeM.new nD).trans l2
    have hF2 := l23 _ _ hF
    have l3 := l1.trans l23
    repeat (walk_at "x")
    refine oc_len (.ref hD) ?_
    rw [List.length_map]
    repeat (walk_at "s")
    have fl : (acc.filter fun o => !decide (rcomp s.1 o.1 < 0)).length ≤ 100 := Nat.le_trans (List.length_filter_le _ _) al
    refine ⟨_, _, rfl, hF2, ?_⟩
    repeat (walk_at "s")
    refine ⟨_, _, rfl, hF2, by rw [List.length_map]; exact Nat.lt_of_le_of_lt al (by decide), by omega, by omega, ?_⟩
    repeat (walk_at "s")
    refine ⟨insS acc s, e2.symm, l3.put nF, ?_, _, _, _, rfl⟩
    rw [updM_same]
    unfold insS
    rw [Int.toNat_natCast, List.map_append, List.map_append, List.map_take, List.map_drop]
    rfl
  · rintro σ M' ⟨acc, ea, l1, hF, x2, x3, x4, rfl⟩
    rw [List.length_map, List.take_length] at ea
    repeat (walk_at "s")
    exact ⟨M', LeM.refl, q F M' nF l1 (by rw [hF, ea]; rfl)⟩
theorem df_gap_in {E : Ev} (hN : ∃ a, E.mg "NOUGHT" = some (.ref a) ∧ ∀ H, Rv E.K H (.ref a) (vr (0, 1))) (hO : ∃ a, E.mg "ONE" = some (.ref a) ∧ ∀ H, Rv E.K H (.ref a) (vr (1, 1))) (hH : ∃ a, E.mg "HALF" = some (.ref a) ∧ ∀ H, Rv E.K H (.ref a) (vr (1, 2)))
    (D1 : E.df 2 "less" ["one", "other"] spLess) (D2 : E.df 3 "plus" ["one", "other"] (spBin rsum)) (D3 : E.df 3 "times" ["one", "other"] (spBin rprod)) (D4 : E.df 3 "in_order" ["spans"] spInOrder) (T : Tx E "gap_in" (top 28) ["spans"]) : E.df 4 "gap_in" ["spans"] spGap := by
  refine T.df ["spans", "here", "first", "last"] ⟨rfl, rfl, rfl, by decide +kernel, rfl, by decide +kernel, by decide +kernel⟩ (fun ws M Q ⟨_, _, e, _⟩ => by rw [e]; rfl) fun X B ws M Q ⟨w, l, e, hw, hlen, hb, q⟩ => ?_
  subst e
  obtain ⟨aN, mN, rN⟩ := hN
  obtain ⟨aO, mO, rO⟩ := hO
  obtain ⟨aH, mH, rH⟩ := hH
  show WSs X _ [some (w), none, none, none] M _
  repeat (walk_at "s")
  refine ws_forLst B ?_
  repeat (walk_at "x")
  refine ⟨w, l, rfl, hw, hlen, fun s hs => ⟨(hb s hs).1.big, (hb s hs).2.big⟩, fun p M2 np l2 hp => ?_⟩
  have mb : ∀ s ∈ ordS l, RB 1473 s.1 ∧ RB 1473 s.2 := fun s hs => hb s ((ordS_perm l).mem_iff.mp hs)
  unfold gapF at q
  generalize ordS l = m at hp mb q
  refine ⟨_, .ref hp, fun i σ M' => ∃ o : Option Rt, M2 = M' ∧ gapGo m none = gapGo (m.drop i) o ∧ (∀ h, o = some h → RB 1473 h) ∧ ∃ (x2 x3 : Option VV), σ = [some (w), some (optr o), x2, x3], ⟨none, rfl, rfl, (fun h z => by cases z), _, _, rfl⟩, fun i σ M' _ ⟨_, e, _⟩ => by subst e; exact .ref hp, ?_, ?_⟩
  · rintro i u σ M' hi hu ⟨o, rfl, eg, ob, x2, x3, rfl⟩
    rw [List.getElem?_map] at hu
    obtain ⟨s, hs, rfl⟩ := Option.map_eq_some_iff.mp hu
    have sb := mb s (List.mem_of_getElem? hs)
    have il := (List.getElem?_eq_some_iff.mp hs).1
    have ed : m.drop i = s :: m.drop (i + 1) := by
      rw [List.drop_eq_getElem_cons il]
      rw [(List.getElem?_eq_some_iff.mp hs).2]
    rw [ed] at eg
    refine wg_tup B ?_
    repeat (walk_at "s")
    cases o with
    | none =>
      refine ite_yes rfl ?_
      repeat (walk_at "s")
      refine we_glr B rfl mN rN ?_
      refine o2_neRt B.room.units ?_
      refine ⟨_, rfl, ?_⟩
      have eg : gapGo m none = (if s.1 = (0, 1) then gapGo (m.drop (i + 1)) (some s.2) else some (0, 1)) := eg
      by_cases c : s.1 = (0, 1)
      · rw [if_pos c] at eg
        rw [decide_eq_true c]
        refine iteF ?_
        repeat (walk_at "s")
        refine ite_no (by decide) ?_
        refine iteF ?_
        repeat (walk_at "s")
        refine ite_yes rfl ?_
        refine iteT ?_
        repeat (walk_at "s")
        exact ⟨some s.2, rfl, eg, (fun h z => by cases z; exact sb.2), _, _, rfl⟩
      · rw [if_neg c] at eg
        rw [decide_eq_false c]
        refine iteT ?_
        repeat (walk_at "s")
        refine we_glr B rfl mN rN ?_
        rw [eg] at q
        exact ⟨M, l2, q⟩
    | some h =>
      have hb1 := ob h rfl
      refine ite_no (by intro z; cases z) ?_
      refine iteF ?_
      repeat (walk_at "s")
      refine ite_yes rfl ?_
      repeat (walk_at "s")
      refine ⟨_, _, rfl, hb1.big, sb.1.big, _, .bl _, ?_⟩
      have eg : gapGo m none = (if rcomp h s.1 < 0 then some (rprod (1, 2) (rsum h s.1)) else gapGo (m.drop (i + 1)) (some (if rcomp h s.2 < 0 then s.2 else h))) := eg
      refine ite_dec (fun c => ?_) (fun c => ?_)
      · rw [if_pos c] at eg
        repeat (walk_at "s")
        refine we_glr B rfl mH rH ?_
        repeat (walk_at "s")
        refine ⟨_, _, rfl, hb1.big, sb.1.big, ?_⟩
        repeat (walk_at "s")
        refine ⟨(1, 2), _, rfl, ⟨Nat.one_lt_two_pow (by decide), by show 2 < 2 ^ 4000; exact Nat.lt_of_lt_of_le (show 2 < 2 ^ 2 by decide) (Nat.pow_le_pow_right (by decide) (by decide)), by decide⟩, (hb1.sum sb.1).big, ?_⟩
        rw [eg] at q
        exact ⟨M, l2, q⟩
      · rw [if_neg c] at eg
        repeat (walk_at "s")
        refine ite_no (by intro z; cases z) ?_
        repeat (walk_at "s")
        refine ⟨_, _, rfl, hb1.big, sb.2.big, _, .bl _, ?_⟩
        refine ite_dec (fun c2 => ?_) (fun c2 => ?_)
        · rw [if_pos c2] at eg
          repeat (walk_at "s")
          exact ⟨some s.2, rfl, eg, (fun h z => by cases z; exact sb.2), _, _, rfl⟩
        · rw [if_neg c2] at eg
          repeat (walk_at "s")
          exact ⟨some h, rfl, eg, ob, _, _, rfl⟩
  · rintro σ M' ⟨o, rfl, eg, ob, x2, x3, rfl⟩
    rw [List.length_map, List.drop_length] at eg
    rw [eg] at q
    repeat (walk_at "s")
    cases o with
    | none =>
      refine ite_yes rfl ?_
      repeat (walk_at "s")
      refine we_glr B rfl mN rN ?_
      exact ⟨M, l2, q⟩
    | some h =>
      have hb1 := ob h rfl
      refine ite_no (by intro z; cases z) ?_
      replace q : Q (optr (if rcomp h (1, 1) < 0 then some (1, 1) else none)) M := q
      repeat (walk_at "s")
      refine we_glr B rfl mO rO ?_
      repeat (walk_at "s")
      refine ⟨h, (1, 1), rfl, hb1.big, ⟨Nat.one_lt_two_pow (by decide), Nat.one_lt_two_pow (by decide), by decide⟩, _, .bl _, ?_⟩
      refine ite_dec (fun c => ?_) (fun c => ?_)
      · rw [if_pos c] at q
        repeat (walk_at "s")
        refine we_glr B rfl mO rO ?_
        exact ⟨M, l2, q⟩
      · rw [if_neg c] at q
        repeat (walk_at "s")
        exact ⟨M, l2, q⟩
end G3

set_option Elab.async false
set_option linter.all false
set_option maxRecDepth 100000
set_option maxHeartbeats 4000000
set_option pp.maxSteps 1000
namespace G3
open PySem PySem.Spec L2
local macro_rules | `(tactic| walk_at "at") => `(tactic| with_reducible (repeat (first | exact At.here | apply At.there)))
local macro_rules | `(tactic| walk_at "vis") => `(tactic| first | exact Or.inl rfl | exact Or.inr (Or.inl rfl) | exact Or.inr (Or.inr rfl))
local macro_rules | `(tactic| walk_at "loc") => `(tactic| first | exact Or.inl rfl | exact Or.inr rfl)
local macro_rules | `(tactic| walk_at "as") => `(tactic| with_reducible assumption)
local macro_rules | `(tactic| walk_at "e") => `(tactic| first
  | ((with_reducible show G3.WE _ (.Name _ _) _ _ _); first | refine we_nm (by walk_at "as") (by walk_at "at") (by walk_at "vis") (by rfl) ?_ | refine we_tyn (by walk_at "as") (by rfl) (by walk_at "as") (by walk_at "as") ?_ | refine we_cls (C := He.ga _ _) (by walk_at "as") (by rfl) (by walk_at "as") ?_ | refine we_nmH (by walk_at "as") (by walk_at "at") (by walk_at "vis") (by rfl) ?_ | refine we_tynH (by walk_at "as") (by rfl) (by walk_at "as") (by walk_at "as") ?_ | refine we_clsH (C := He.ga _ _) (by walk_at "as") (by rfl) (by walk_at "as") ?_)
  | ((with_reducible show G3.WE _ (.Constant (.int _) _ _) _ _ _); refine we_int ?_)
  | ((with_reducible show G3.WE _ (.Subscript _ (.Slice _ _ (some _) _) _) _ _ _); refine we_rev ?_)
  | ((with_reducible show G3.WE _ (.Subscript _ (.Slice _ _ none _) _) _ _ _); refine we_slice ?_)
  | ((with_reducible show G3.WE _ (.Subscript _ _ _) _ _ _); refine we_ix ?_)
  | ((with_reducible show G3.WE _ (.BinOp _ _ _ _) _ _ _); refine we_op ?_)
  | ((with_reducible show G3.WE _ (.Call (.Name _ _) _ _ _) _ _ _); first
      | refine we_call (by walk_at "as") (by walk_at "as") (by decide) (by rfl) ?_
      | refine we_callB (by walk_at "as") (by rfl) (by walk_at "as") (by walk_at "as") ?_
      | refine we_callTy (by walk_at "as") (by rfl) (by walk_at "as") (by walk_at "as") ?_
      | refine we_callX (by walk_at "as") (by walk_at "as") (by walk_at "as") (by decide) (by rfl) (by walk_at "as") ?_
      | refine we_callBH (by walk_at "as") (by rfl) (by walk_at "as") (by walk_at "as") ?_)
  | ((with_reducible show G3.WE _ (.Attribute _ _ _) _ _ _); first | refine we_fld (by walk_at "as") ?_ | refine we_xfH (by walk_at "as") (by walk_at "as") (by walk_at "as") (by walk_at "as") ?_)
  | ((with_reducible show G3.WE _ (.Tuple _ _ _) _ _ _); refine we_tup ?_)
  | ((with_reducible show G3.WE _ (.List _ _) _ _ _); first | refine we_lstN ?_ | refine we_lst ?_)
  | ((with_reducible show G3.WE _ (.Compare _ [_] _ _) _ _ _); refine we_cmp ?_)
  | ((with_reducible show G3.WE _ (.Compare _ [_, _] _ _) _ _ _); refine we_chain ?_)
  | ((with_reducible show G3.WE _ (.UnaryOp .Not _ _) _ _ _); refine we_not ?_)
  | ((with_reducible show G3.WE _ (.UnaryOp _ _ _) _ _ _); refine we_un ?_)
  | ((with_reducible show G3.WE _ (.IfExp _ _ _ _) _ _ _); refine we_if ?_)
  | ((with_reducible show G3.WE _ (.Constant _ _ _) _ _ _); first | refine we_bl ?_ | refine we_non ?_ | refine we_str ?_)
  | ((with_reducible show G3.WE _ (.JoinedStr (_ :: _ :: _) _) _ _ _); refine we_joined ?_)
  | ((with_reducible show G3.WE _ (.FormattedValue _ _ _ _) _ _ _); refine we_fmt ?_)
  | ((with_reducible show G3.WE _ (.BoolOp _ [_] _) _ _ _); refine we_one ?_)
  | ((with_reducible show G3.WE _ (.BoolOp .And _ _) _ _ _); refine we_and ?_)
  | ((with_reducible show G3.WE _ (.BoolOp .Or _ _) _ _ _); refine we_or ?_))
local macro_rules | `(tactic| walk_at "t") => `(tactic| first
  | ((with_reducible show WT _ (.Compare _ [_] _ _) _ _ _); refine wt_cmp ?_)
  | ((with_reducible show WT _ (.Compare _ [_, _] _ _) _ _ _); refine wt_chain ?_)
  | ((with_reducible show WT _ (.UnaryOp .Not _ _) _ _ _); refine wt_not ?_)
  | ((with_reducible show WT _ (.BoolOp .And _ _) _ _ _); refine wt_w (ww_and ?_))
  | ((with_reducible show WT _ (.BoolOp .Or _ _) _ _ _); refine wt_w (ww_or ?_))
  | refine wt_truth ?_)
local macro_rules | `(tactic| walk_at "w") => `(tactic| first
  | ((with_reducible show WW _ (.BoolOp .And [_] _) _ _ _); refine ww_and1 ?_)
  | ((with_reducible show WW _ (.BoolOp .Or [_] _) _ _ _); refine ww_or1 ?_)
  | ((with_reducible show WW _ (.BoolOp .And _ _) _ _ _); refine ww_and ?_)
  | ((with_reducible show WW _ (.BoolOp .Or _ _) _ _ _); refine ww_or ?_))
local macro_rules | `(tactic| walk_at "st") => `(tactic| first
  | ((with_reducible show WS _ (.Assign [.Name _ _] (.ListComp _ _ _ _) _) _ _ _); fail)
  | ((with_reducible show WS _ (.Assign [.Name _ _] _ _) _ _ _); first | refine ws_set (by walk_at "as") (by walk_at "at") (by walk_at "loc") ?_ | refine ws_setH (by walk_at "as") (by walk_at "at") (by walk_at "loc") ?_)
  | ((with_reducible show WS _ (.Return (some _) _) _ _ _); refine ws_ret ?_)
  | ((with_reducible show WS _ (.If _ _ _ _) _ _ _); refine ws_if ?_)
  | ((with_reducible show WS _ (.Expr (.Call (.Attribute _ "append" _) _ _ _) _) _ _ _); refine ws_append ?_)
  | ((with_reducible show WS _ (.Expr (.Call (.Attribute _ "insert" _) _ _ _) _) _ _ _); refine ws_insert ?_)
  | ((with_reducible show WS _ (.Expr _ _) _ _ _); refine ws_expr ?_)
  | ((with_reducible show WS _ (.Assign [.Tuple _ _ _] (.Tuple _ _ _) _) _ _ _); first
      | refine ws_par2 (by walk_at "as") (by walk_at "at") (by walk_at "at") (by rfl) (by rfl) (by rfl) (by rfl) ?_
      | refine ws_asgT (by walk_at "as") (by rfl) ?_)
  | ((with_reducible show WS _ (.Raise (some _) none _) _ _ _); refine ws_raise (by walk_at "as") (by walk_at "as") ?_)
  | ((with_reducible show WS _ (.Assign [_] _ _) _ _ _); (fail_if_success (with_reducible show WS _ (.Assign [.Attribute _ _ _] _ _) _ _ _)); refine ws_asg ?_)
  | ((with_reducible show WS _ (.Return none _) _ _ _); refine ws_retN ?_)
  | ((with_reducible show WS _ (.Pass _) _ _ _); refine ws_pass ?_)
  | ((with_reducible show WS _ (.Break _) _ _ _); refine ws_break ?_)
  | ((with_reducible show WS _ (.Continue _) _ _ _); refine ws_continue ?_))
local macro_rules | `(tactic| walk_at "mul") => `(tactic| with_unfolding_all first
  | exact cml (by decide) (by decide)
  | exact cmr (by decide) (by decide)
  | exact cmw (by with_reducible assumption) (by with_reducible assumption) (by decide) (by decide) (by decide)
  | exact cml (by omega) (by omega)
  | exact cmr (by omega) (by omega))
local macro_rules | `(tactic| walk_at "o2") => `(tactic| with_reducible first
  | refine o2_add ?_
  | refine o2_sub ?_
  | refine o2_mul (by walk_at "mul") ?_
  | refine o2_lt ?_
  | refine o2_le ?_
  | refine o2_gt ?_
  | refine o2_ge ?_
  | refine o2_eqi ?_
  | refine o2_nei ?_
  | refine o2_eqb ?_
  | refine o2_neb ?_
  | refine o2_eqs ?_
  | refine o2_nes ?_
  | refine o2_isN ?_
  | refine o2_notN ?_)
local macro_rules | `(tactic| walk_at "x") => `(tactic| first
  | ((with_reducible show G3.WE _ _ _ _ _); walk_at "e")
  | ((with_reducible show WA _ _ _ _ _); first | refine wa_cons ?_ | refine wa_nil ?_)
  | ((with_reducible show WMk _ (.Call (.Name _ _) [] _ _) _ _ _); refine wmk_own0 (by walk_at "as") (by walk_at "as") (by decide) (by rfl) ?_)
  | ((with_reducible show WO _ _ _ _ _); first | (show G3.WE _ _ _ _ _))
  | ((with_reducible show WT _ _ _ _ _); walk_at "t")
  | ((with_reducible show G3.WJ _ _ _ _ _ _); first | refine wj_cons ?_ | refine wj_nil ?_)
  | ((with_reducible show G3.WK _ _ _ _ _); first | refine wk_cons ?_ | refine wk_nil ?_)
  | ((with_reducible show WW _ _ _ _ _); walk_at "w")
  | ((with_reducible show WS _ _ _ _ _); walk_at "st")
  | ((with_reducible show O2 _ _ _ _ _ _); walk_at "o2")
  | ((with_reducible show OI _ (.tup _) _ _ _); refine oi_tup rfl ?_)
  | ((with_reducible show OC _ _ _ _ _); with_reducible first | refine oc_abs ?_ | refine oc_int ?_ | refine oc_intb ?_ | refine oc_lenT ?_)
  | ((with_reducible show O1 _ _ _ _ _); refine o1_neg ?_)
  | ((with_reducible show BQ _ _ _); refine ⟨_, rfl, ?_⟩)
  | ((with_reducible show WG _ _ _ _ _ _); first | refine wg_name (by walk_at "as") (by walk_at "at") (by walk_at "loc") ?_ | refine wg_tup (by walk_at "as") ?_)
  | ((with_reducible show WGs _ _ _ _ _ _); first | refine wgs_cons (by walk_at "as") (by walk_at "at") (by walk_at "loc") ?_ | refine wgs_nil ?_))
local macro_rules | `(tactic| walk_at "s") => `(tactic| first
  | walk_at "x"
  | ((with_reducible show WSs _ _ _ _ _); first | refine wss_cons ?_ | refine wss_nil ?_))
theorem df_bare {E : Ev} (D1 : E.df 1 "pieces_of" ["polyline"] spPiecesOf) (D2 : E.df 5 "near_span" ["piece", "other", "slack"] spNear) (D3 : E.df 4 "gap_in" ["spans"] spGap) (D4 : E.df 4 "on_way" ["one", "other", "share"] spOnW) (T : Tx E "bare" (top 29) ["ones", "others", "slack"]) : E.df 6 "bare" ["ones", "others", "slack"] spBare := by
  refine T.df ["ones", "others", "slack", "piece", "spans", "other", "share", "span", "one"] ⟨rfl, rfl, rfl, by decide +kernel, rfl, by decide +kernel, by decide +kernel⟩ (fun ws M Q ⟨_, _, _, _, _, e, _⟩ => by rw [e]; rfl) fun X B ws M Q ⟨w, u, ones, others, sl, e, hw, hu, n1, n2, l1, l2, b1, b2, hs, q⟩ => ?_
  subst e
  have pb1 := pieces_bits2 b1 n1
  have pb2 := pieces_bits2 b2 n2
  have pl2 : (piecesF others).length ≤ 100 := Nat.le_trans pieces_len l2
  show WSs X _ [some (w), some (u), some (vr sl), none, none, none, none, none, none] M _
  refine wss_cons ?_
  refine ws_forLst B ?_
  repeat (walk_at "x")
  refine ⟨w, ones, rfl, hw, n1, by omega, fun p np => ?_⟩
  have le0 := LeM.new (o := .lst ((piecesF ones).map vpp)) np
  have hp : updM M p (.lst ((piecesF ones).map vpp)) p = some (.lst ((piecesF ones).map vpp)) := updM_same
  generalize updM M p (.lst ((piecesF ones).map vpp)) = M0 at le0 hp
  unfold bareF at q
  generalize hf : (fun p : Spt × Spt => (gapF ((piecesF others).filterMap fun q => nearF p.1 p.2 q.1 q.2 sl)).map fun g => onWay p.1 p.2 g) = f at q
  refine ⟨_, .ref hp, fun i σ M' => LeM M0 M' ∧ ((piecesF ones).take i).findSome? f = none ∧ ∃ (x3 x4 x5 x6 x7 x8 : Option VV), σ = [some (w), some (u), some (vr sl), x3, x4, x5, x6, x7, x8], ⟨LeM.refl, by rw [List.take_zero]; rfl, _, _, _, _, _, _, rfl⟩, fun i σ M' _ h => .ref (h.1 _ _ hp), ?_, ?_⟩
  · rintro i v σ M' hi hv ⟨le1, fn, x3, x4, x5, x6, x7, x8, rfl⟩
    rw [List.getElem?_map] at hv
    obtain ⟨z, hz, rfl⟩ := Option.map_eq_some_iff.mp hv
    obtain ⟨a, b⟩ := z
    have zb := pb1 _ (List.mem_of_getElem? hz)
    have eq2 : ((piecesF ones).take (i + 1)).findSome? f = f (a, b) := by
      rw [List.take_add_one, hz, List.findSome?_append, fn]
      show List.findSome? f [(a, b)] = _
      rw [List.findSome?_cons, List.findSome?_nil]
      cases f (a, b) <;> rfl
    have eq3 : ∀ s, f (a, b) = some s → (piecesF ones).findSome? f = some s := fun s e => by
      have : piecesF ones = (piecesF ones).take (i + 1) ++ (piecesF ones).drop (i + 1) := (List.take_append_drop _ _).symm
      rw [this, List.findSome?_append, eq2, e]; rfl
    walk_at "s"
    refine wss_cons ?_
    refine ws_setLc B [("other", 5)] (by walk_at "at") (by rfl) (by rfl) (by decide +kernel) (by decide) (pgI1 B (by walk_at "at") (by rfl)) ctg_name ?_
    refine wi_lst ?_
    repeat (walk_at "x")
    refine ⟨u, others, rfl, hu.le (le0.trans le1), n2, by omega, fun p2 np2 => ?_⟩
    refine ⟨_, .ref updM_same, ?_⟩
    refine compI_map (piecesF others) (itm_lst (xs := piecesF others) (v := vpp) (.ref updM_same) (Nat.le_trans pl2 (by decide))) (fun c => optv (nearF a b c.1 c.2 sl)) ?_ ?_
    · rintro ⟨c, d⟩ x M2 hc rfl l3
      refine ⟨_, rfl, fun Y BY => ?_⟩
      have cb := pb2 _ hc
      show WE Y _ [some (w), some (u), some (vr sl), some (vpp (a, b)), x4, some (vpp (c, d)), x6, x7, x8] M2 _
      repeat (walk_at "s")
      refine ⟨a, b, c, d, sl, rfl, zb.1, zb.2, cb.1, cb.2, hs, ?_⟩
      exact ⟨rfl, LeM.refl⟩
    intro D nD M2 l3
    have hD : M2 D = some (.lst (((piecesF others).map fun c => nearF a b c.1 c.2 sl).map optv)) := by rw [l3 _ _ updM_same, List.map_map]; rfl
    have le2 := (LeM.new np2).trans ((LeM.new nD).trans l3)
    have le3 := le1.trans le2
    clear le2 l3 nD np2
    refine wss_cons ?_
    refine ws_set B (by walk_at "at") (by walk_at "loc") ?_
    walk_at "x"
    refine wa_cons ?_
    refine we_lc B [("span", 7)] (by decide +kernel) (by decide) (pgI1 B (by walk_at "at") (by rfl)) ctg_name ?_
    refine wi_lst ?_
    repeat (walk_at "x")
    have ml : ((piecesF others).map fun c => nearF a b c.1 c.2 sl).length ≤ 100 := by rw [List.length_map]; exact pl2
    have em0 : ((piecesF others).map fun c => nearF a b c.1 c.2 sl).filterMap (fun o => o) = (piecesF others).filterMap fun c => nearF a b c.1 c.2 sl := by rw [List.filterMap_map]; rfl
    generalize ((piecesF others).map fun c => nearF a b c.1 c.2 sl) = os at hD ml em0
    refine ⟨_, .ref hD, ?_⟩
    refine compI_filter os (itm_lst (xs := os) (v := optv) (.ref hD) (Nat.le_trans ml (by decide))) (fun o => o.isSome) (fun o => optv o) ?_ ?_
    · rintro o x M3 ho rfl l3
      refine ⟨_, rfl, fun Y BY => ?_⟩
      show WT Y _ [some (w), some (u), some (vr sl), some (vpp (a, b)), some (.ref D), x5, x6, some (optv o), x8] M3 _
      repeat (walk_at "s")
      refine ⟨?_, LeM.refl, fun _ Y' BY' => ?_⟩
      · cases o <;> rfl
      · show WE Y' _ [some (w), some (u), some (vr sl), some (vpp (a, b)), some (.ref D), x5, x6, some (optv o), x8] M3 _
        repeat (walk_at "s")
        exact ⟨rfl, LeM.refl⟩
    intro D2 nD2 M3 l3
    have em : (os.filter fun o => o.isSome).map (fun o => optv o) = ((piecesF others).filterMap fun c => nearF a b c.1 c.2 sl).map vs2 := by
      rw [← em0]
      clear em0 ml hD l3 nD2 le3
      induction os with
      | nil => rfl
      | cons o os ih =>
        cases o with
        | none => exact ih
        | some r =>
          show optv (some r) :: _ = vs2 r :: _
          rw [ih]; rfl
    have hD2 : M3 D2 = some (.lst (((piecesF others).filterMap fun c => nearF a b c.1 c.2 sl).map vs2)) := by rw [l3 _ _ updM_same, em]
    have le4 := le3.trans ((LeM.new nD2).trans l3)
    clear l3 nD2 hD
    repeat (walk_at "x")
    refine ⟨.ref D2, _, rfl, .ref hD2, Nat.le_trans (List.length_filterMap_le _ _) pl2, fun s hs' => ?_, ?_⟩
    · obtain ⟨c, hc, ec⟩ := List.mem_filterMap.mp hs'
      have cb := pb2 c hc
      exact near_bits zb.1 zb.2 cb.1 cb.2 hs ec
    have gb : ∀ g, gapF ((piecesF others).filterMap fun c => nearF a b c.1 c.2 sl) = some g → RB 2949 g := fun g hg => gap_bits (n := 1473) (fun s hs' => by
      obtain ⟨c, hc, ec⟩ := List.mem_filterMap.mp hs'
      have cb := pb2 c hc
      exact near_bits zb.1 zb.2 cb.1 cb.2 hs ec) hg
    have ef : f (a, b) = (gapF ((piecesF others).filterMap fun c => nearF a b c.1 c.2 sl)).map fun g => onWay a b g := by rw [← hf]
    generalize gapF ((piecesF others).filterMap fun c => nearF a b c.1 c.2 sl) = o at gb ef
    repeat (walk_at "s")
    cases o with
    | none =>
      refine ite_no (by decide) ?_
      repeat (walk_at "s")
      exact ⟨le4, by rw [eq2, ef]; rfl, _, _, _, _, _, _, rfl⟩
    | some g =>
      refine ite_yes rfl ?_
      rw [eq3 _ (show f (a, b) = some (onWay a b g) by rw [ef]; rfl)] at q
      repeat (walk_at "s")
      refine ⟨a, b, g, 36, 2949, rfl, zb.1, zb.2, gb g rfl, by decide, ?_⟩
      exact ⟨M, le0.trans le4, q⟩
  · rintro σ M' ⟨le1, fn, x3, x4, x5, x6, x7, x8, rfl⟩
    rw [List.length_map, List.take_length] at fn
    rw [fn] at q
    repeat (walk_at "s")
    exact ⟨M, le0.trans le1, q⟩
end G3

set_option Elab.async false
set_option linter.all false
set_option maxRecDepth 100000
set_option maxHeartbeats 4000000
set_option pp.maxSteps 1000
namespace G3
open PySem PySem.Spec L2
local macro_rules | `(tactic| walk_at "at") => `(tactic| with_reducible (repeat (first | exact At.here | apply At.there)))
local macro_rules | `(tactic| walk_at "vis") => `(tactic| first | exact Or.inl rfl | exact Or.inr (Or.inl rfl) | exact Or.inr (Or.inr rfl))
local macro_rules | `(tactic| walk_at "loc") => `(tactic| first | exact Or.inl rfl | exact Or.inr rfl)
local macro_rules | `(tactic| walk_at "as") => `(tactic| with_reducible assumption)
local macro_rules | `(tactic| walk_at "e") => `(tactic| first
  | ((with_reducible show G3.WE _ (.Name _ _) _ _ _); first | refine we_nm (by walk_at "as") (by walk_at "at") (by walk_at "vis") (by rfl) ?_ | refine we_tyn (by walk_at "as") (by rfl) (by walk_at "as") (by walk_at "as") ?_ | refine we_cls (C := He.ga _ _) (by walk_at "as") (by rfl) (by walk_at "as") ?_ | refine we_nmH (by walk_at "as") (by walk_at "at") (by walk_at "vis") (by rfl) ?_ | refine we_tynH (by walk_at "as") (by rfl) (by walk_at "as") (by walk_at "as") ?_ | refine we_clsH (C := He.ga _ _) (by walk_at "as") (by rfl) (by walk_at "as") ?_)
  | ((with_reducible show G3.WE _ (.Constant (.int _) _ _) _ _ _); refine we_int ?_)
  | ((with_reducible show G3.WE _ (.Subscript _ (.Slice _ _ (some _) _) _) _ _ _); refine we_rev ?_)
  | ((with_reducible show G3.WE _ (.Subscript _ (.Slice _ _ none _) _) _ _ _); refine we_slice ?_)
  | ((with_reducible show G3.WE _ (.Subscript _ _ _) _ _ _); refine we_ix ?_)
  | ((with_reducible show G3.WE _ (.BinOp _ _ _ _) _ _ _); refine we_op ?_)
  | ((with_reducible show G3.WE _ (.Call (.Name _ _) _ _ _) _ _ _); first
      | refine we_call (by walk_at "as") (by walk_at "as") (by decide) (by rfl) ?_
      | refine we_callB (by walk_at "as") (by rfl) (by walk_at "as") (by walk_at "as") ?_
      | refine we_callTy (by walk_at "as") (by rfl) (by walk_at "as") (by walk_at "as") ?_
      | refine we_callX (by walk_at "as") (by walk_at "as") (by walk_at "as") (by decide) (by rfl) (by walk_at "as") ?_
      | refine we_callBH (by walk_at "as") (by rfl) (by walk_at "as") (by walk_at "as") ?_)
  | ((with_reducible show G3.WE _ (.Attribute _ _ _) _ _ _); first | refine we_fld (by walk_at "as") ?_ | refine we_xfH (by walk_at "as") (by walk_at "as") (by walk_at "as") (by walk_at "as") ?_)
  | ((with_reducible show G3.WE _ (.Tuple _ _ _) _ _ _); refine we_tup ?_)
  | ((with_reducible show G3.WE _ (.List _ _) _ _ _); first | refine we_lstN ?_ | refine we_lst ?_)
  | ((with_reducible show G3.WE _ (.Compare _ [_] _ _) _ _ _); refine we_cmp ?_)
  | ((with_reducible show G3.WE _ (.Compare _ [_, _] _ _) _ _ _); refine we_chain ?_)
  | ((with_reducible show G3.WE _ (.UnaryOp .Not _ _) _ _ _); refine we_not ?_)
  | ((with_reducible show G3.WE _ (.UnaryOp _ _ _) _ _ _); refine we_un ?_)
  | ((with_reducible show G3.WE _ (.IfExp _ _ _ _) _ _ _); refine we_if ?_)
  | ((with_reducible show G3.WE _ (.Constant _ _ _) _ _ _); first | refine we_bl ?_ | refine we_non ?_ | refine we_str ?_)
  | ((with_reducible show G3.WE _ (.JoinedStr (_ :: _ :: _) _) _ _ _); refine we_joined ?_)
  | ((with_reducible show G3.WE _ (.FormattedValue _ _ _ _) _ _ _); refine we_fmt ?_)
  | ((with_reducible show G3.WE _ (.BoolOp _ [_] _) _ _ _); refine we_one ?_)
  | ((with_reducible show G3.WE _ (.BoolOp .And _ _) _ _ _); refine we_and ?_)
  | ((with_reducible show G3.WE _ (.BoolOp .Or _ _) _ _ _); refine we_or ?_))
local macro_rules | `(tactic| walk_at "t") => `(tactic| first
  | ((with_reducible show WT _ (.Compare _ [_] _ _) _ _ _); refine wt_cmp ?_)
  | ((with_reducible show WT _ (.Compare _ [_, _] _ _) _ _ _); refine wt_chain ?_)
  | ((with_reducible show WT _ (.UnaryOp .Not _ _) _ _ _); refine wt_not ?_)
  | ((with_reducible show WT _ (.BoolOp .And _ _) _ _ _); refine wt_w (ww_and ?_))
  | ((with_reducible show WT _ (.BoolOp .Or _ _) _ _ _); refine wt_w (ww_or ?_))
  | refine wt_truth ?_)
local macro_rules | `(tactic| walk_at "w") => `(tactic| first
  | ((with_reducible show WW _ (.BoolOp .And [_] _) _ _ _); refine ww_and1 ?_)
  | ((with_reducible show WW _ (.BoolOp .Or [_] _) _ _ _); refine ww_or1 ?_)
  | ((with_reducible show WW _ (.BoolOp .And _ _) _ _ _); refine ww_and ?_)
  | ((with_reducible show WW _ (.BoolOp .Or _ _) _ _ _); refine ww_or ?_))
local macro_rules | `(tactic| walk_at "st") => `(tactic| first
  | ((with_reducible show WS _ (.Assign [.Name _ _] (.ListComp _ _ _ _) _) _ _ _); fail)
  | ((with_reducible show WS _ (.Assign [.Name _ _] _ _) _ _ _); first | refine ws_set (by walk_at "as") (by walk_at "at") (by walk_at "loc") ?_ | refine ws_setH (by walk_at "as") (by walk_at "at") (by walk_at "loc") ?_)
  | ((with_reducible show WS _ (.Return (some _) _) _ _ _); refine ws_ret ?_)
  | ((with_reducible show WS _ (.If _ _ _ _) _ _ _); refine ws_if ?_)
  | ((with_reducible show WS _ (.Expr (.Call (.Attribute _ "append" _) _ _ _) _) _ _ _); refine ws_append ?_)
  | ((with_reducible show WS _ (.Expr (.Call (.Attribute _ "insert" _) _ _ _) _) _ _ _); refine ws_insert ?_)
  | ((with_reducible show WS _ (.Expr _ _) _ _ _); refine ws_expr ?_)
  | ((with_reducible show WS _ (.Assign [.Tuple _ _ _] (.Tuple _ _ _) _) _ _ _); first
      | refine ws_par2 (by walk_at "as") (by walk_at "at") (by walk_at "at") (by rfl) (by rfl) (by rfl) (by rfl) ?_
      | refine ws_asgT (by walk_at "as") (by rfl) ?_)
  | ((with_reducible show WS _ (.Raise (some _) none _) _ _ _); refine ws_raise (by walk_at "as") (by walk_at "as") ?_)
  | ((with_reducible show WS _ (.Assign [_] _ _) _ _ _); (fail_if_success (with_reducible show WS _ (.Assign [.Attribute _ _ _] _ _) _ _ _)); refine ws_asg ?_)
  | ((with_reducible show WS _ (.Return none _) _ _ _); refine ws_retN ?_)
  | ((with_reducible show WS _ (.Pass _) _ _ _); refine ws_pass ?_)
  | ((with_reducible show WS _ (.Break _) _ _ _); refine ws_break ?_)
  | ((with_reducible show WS _ (.Continue _) _ _ _); refine ws_continue ?_))
local macro_rules | `(tactic| walk_at "mul") => `(tactic| with_unfolding_all first
  | exact cml (by decide) (by decide)
  | exact cmr (by decide) (by decide)
  | exact cmw (by with_reducible assumption) (by with_reducible assumption) (by decide) (by decide) (by decide)
  | exact cml (by omega) (by omega)
  | exact cmr (by omega) (by omega))
local macro_rules | `(tactic| walk_at "o2") => `(tactic| with_reducible first
  | refine o2_add ?_
  | refine o2_sub ?_
  | refine o2_mul (by walk_at "mul") ?_
  | refine o2_lt ?_
  | refine o2_le ?_
  | refine o2_gt ?_
  | refine o2_ge ?_
  | refine o2_eqi ?_
  | refine o2_nei ?_
  | refine o2_eqb ?_
  | refine o2_neb ?_
  | refine o2_eqs ?_
  | refine o2_nes ?_
  | refine o2_isN ?_
  | refine o2_notN ?_)
local macro_rules | `(tactic| walk_at "x") => `(tactic| first
  | ((with_reducible show G3.WE _ _ _ _ _); walk_at "e")
  | ((with_reducible show WA _ _ _ _ _); first | refine wa_cons ?_ | refine wa_nil ?_)
  | ((with_reducible show WMk _ (.Call (.Name _ _) [] _ _) _ _ _); refine wmk_own0 (by walk_at "as") (by walk_at "as") (by decide) (by rfl) ?_)
  | ((with_reducible show WO _ _ _ _ _); first | (show G3.WE _ _ _ _ _))
  | ((with_reducible show WT _ _ _ _ _); walk_at "t")
  | ((with_reducible show G3.WJ _ _ _ _ _ _); first | refine wj_cons ?_ | refine wj_nil ?_)
  | ((with_reducible show G3.WK _ _ _ _ _); first | refine wk_cons ?_ | refine wk_nil ?_)
  | ((with_reducible show WW _ _ _ _ _); walk_at "w")
  | ((with_reducible show WS _ _ _ _ _); walk_at "st")
  | ((with_reducible show O2 _ _ _ _ _ _); walk_at "o2")
  | ((with_reducible show OI _ (.tup _) _ _ _); refine oi_tup rfl ?_)
  | ((with_reducible show OC _ _ _ _ _); with_reducible first | refine oc_abs ?_ | refine oc_int ?_ | refine oc_intb ?_ | refine oc_lenT ?_)
  | ((with_reducible show O1 _ _ _ _ _); refine o1_neg ?_)
  | ((with_reducible show BQ _ _ _); refine ⟨_, rfl, ?_⟩)
  | ((with_reducible show WG _ _ _ _ _ _); first | refine wg_name (by walk_at "as") (by walk_at "at") (by walk_at "loc") ?_ | refine wg_tup (by walk_at "as") ?_)
  | ((with_reducible show WGs _ _ _ _ _ _); first | refine wgs_cons (by walk_at "as") (by walk_at "at") (by walk_at "loc") ?_ | refine wgs_nil ?_))
local macro_rules | `(tactic| walk_at "s") => `(tactic| first
  | walk_at "x"
  | ((with_reducible show WSs _ _ _ _ _); first | refine wss_cons ?_ | refine wss_nil ?_))
theorem df_lon {E : Ev} (D1 : E.df 2 "_law_sum" ["_law_one", "_law_two"] (spBin rsum)) (D2 : E.df 2 "_law_dif" ["_law_one", "_law_two"] (spBin rdif)) (D3 : E.df 2 "_law_prod" ["_law_one", "_law_two"] (spBin rprod))
    (T : Tx E "_law_on" (top 45) ["_law_one", "_law_two", "_law_part"]) : E.df 3 "_law_on" ["_law_one", "_law_two", "_law_part"] spOn := by
  refine T.df ["_law_one", "_law_two", "_law_part", "_law_x"] ⟨rfl, rfl, rfl, by decide +kernel, rfl, by decide +kernel, by decide +kernel⟩ (fun ws M Q ⟨a, b, c, e, _⟩ => by rw [e]; rfl) fun X B ws M Q ⟨a, b, t, e, ha, hb, ht, q⟩ => ?_
  subst e
  show WSs X _ [some (vsp a), some (vsp b), some (vr t), none] M _
  repeat (walk_at "s")
  refine ⟨_, _, rfl, hb.x.big, ha.x.big, ?_⟩
  repeat (walk_at "s")
  refine ⟨_, _, rfl, ht.big, (hb.x.dif ha.x).big, ?_⟩
  repeat (walk_at "s")
  refine ⟨_, _, rfl, ha.x.big, (ht.prod (hb.x.dif ha.x)).big, ?_⟩
  repeat (walk_at "s")
  refine ⟨_, _, rfl, hb.y.big, ha.y.big, ?_⟩
  repeat (walk_at "s")
  refine ⟨_, _, rfl, ht.big, (hb.y.dif ha.y).big, ?_⟩
  repeat (walk_at "s")
  refine ⟨_, _, rfl, ha.y.big, (ht.prod (hb.y.dif ha.y)).big, ?_⟩
  repeat (walk_at "s")
  exact ⟨by show 2 ≤ sizeLine; decide, M, LeM.refl, q⟩
theorem df_isratio {E : Ev} (hI : E.mg "isinstance" = none) (hTu : E.mg "tuple" = none) (hL : E.mg "len" = none) (D1 : E.df 1 "_law_whole" ["_law_found"] spIsInt) (D2 : E.df 1 "_law_rat" ["_law_over", "_law_under"] spRat)
    (T : Tx E "_law_is_ratio" (top 41) ["_law_one"]) : E.df 2 "_law_is_ratio" ["_law_one"] spIsRatio := by
  refine T.df ["_law_one"] ⟨rfl, rfl, rfl, by decide +kernel, rfl, by decide +kernel, by decide +kernel⟩ (fun ws M Q ⟨a, e, _⟩ => by rw [e]; rfl) fun X B ws M Q ⟨p, e, h0, hg, hz, q⟩ => ?_
  subst e
  have bI := bb_isi
  have bT := bb_tuple
  have bL := bb_len
  show WSs X _ [some (vr p)] M _
  repeat (walk_at "s")
  refine oc_isi (.tup _) (b := true) (by decide +kernel) ?_
  refine ⟨_, .bl _, ?_⟩
  refine ite_no (by decide) ?_
  repeat (walk_at "s")
  refine ite_no (by show ¬ (!decide ((2 : Int) = 2)) = true; decide) ?_
  repeat (walk_at "s")
  refine ⟨p.1, rfl, ?_⟩
  refine ⟨_, .bl _, ?_⟩
  refine ite_no (by decide) ?_
  repeat (walk_at "s")
  refine ⟨p.2, rfl, ?_⟩
  refine ⟨_, .bl _, ?_⟩
  refine ite_no (by decide) ?_
  repeat (walk_at "s")
  refine ite_dec (fun c => ?_) (fun c => absurd h0 c)
  repeat (walk_at "s")
  refine ⟨p.1, p.2, rfl, by omega, hz, ?_⟩
  rw [nrm_self h0 hg]
  repeat (walk_at "s")
  refine o2_eqRt B.room.units ?_
  rw [decide_eq_true rfl]
  exact ⟨M, LeM.refl, q⟩
theorem df_spanG {E : Ev} (D1 : E.df 1 "_law_comp" ["_law_one", "_law_two"] spComp) (D2 : E.df 2 "_law_quo" ["_law_one", "_law_two"] spQuo) (D3 : E.df 2 "_law_dif" ["_law_one", "_law_two"] (spBin rdif))
    (T : Tx E "_law_span" (top 47) ["_law_bits_here", "_law_start", "_law_far", "_law_low", "_law_high"]) : E.df 3 "_law_span" ["_law_bits_here", "_law_start", "_law_far", "_law_low", "_law_high"] spSpanG := by
  refine T.df ["_law_bits_here", "_law_start", "_law_far", "_law_low", "_law_high", "_law_good", "_law_ends", "_law_first", "_law_last"] ⟨rfl, rfl, rfl, by decide +kernel, rfl, by decide +kernel, by decide +kernel⟩ (fun ws M Q ⟨_, _, _, _, _, _, _, _, e, _⟩ => by rw [e]; rfl) fun X B ws M Q ⟨o, s, far, lo, hi, na, nm, nl, e, bits, hs, hfr, hl, hh, hn, q⟩ => ?_
  subst e
  show WSs X _ [some (optv o), some (vr s), some (vr far), some (vr lo), some (vr hi), none, none, none, none] M _
  have bs : RB BIG s := hs.mono (by omega)
  have bl : RB BIG lo := hl.mono (by omega)
  have bh : RB BIG hi := hh.mono (by omega)
  have bf : RB BIG far := hfr.mono (by omega)
  repeat (walk_at "s")
  cases o with
  | none =>
    refine ite_yes rfl ?_
    repeat (walk_at "s")
    exact ⟨M, LeM.refl, q⟩
  | some r =>
    obtain ⟨a, b⟩ := r
    obtain ⟨ha, hb⟩ := bits _ rfl
    refine ite_no (by intro z; cases z) ?_
    replace q : Q (optv (if far.1 = 0 then (if rcomp lo s ≤ 0 ∧ rcomp s hi ≤ 0 then some (a, b) else none)
      else
        let e1 := rquo (rdif lo s) far
        let e2 := rquo (rdif hi s) far
        let f := if rcomp a (if far.1 < 0 then e2 else e1) < 0 then (if far.1 < 0 then e2 else e1) else a
        let l := if rcomp (if far.1 < 0 then e1 else e2) b < 0 then (if far.1 < 0 then e1 else e2) else b
        if rcomp f l ≤ 0 then some (f, l) else none)) M := q
    repeat (walk_at "s")
    refine ite_dec (fun c => ?_) (fun c => ?_)
    · rw [if_pos c] at q
      repeat (walk_at "s")
      refine ⟨_, _, rfl, bl, bs, ?_⟩
      repeat (walk_at "s")
      refine ite_dec (fun c1 => ?_) (fun c1 => ?_)
      · repeat (walk_at "s")
        refine ⟨_, _, rfl, bs, bh, ?_⟩
        repeat (walk_at "s")
        refine ⟨_, .bl _, ?_⟩
        refine ite_dec (fun c2 => ?_) (fun c2 => ?_)
        · rw [if_pos ⟨c1, c2⟩] at q
          repeat (walk_at "s")
          exact ⟨M, LeM.refl, q⟩
        · rw [if_neg (fun z => c2 z.2)] at q
          repeat (walk_at "s")
          exact ⟨M, LeM.refl, q⟩
      · rw [if_neg (fun z => c1 z.1)] at q
        repeat (walk_at "s")
        refine ⟨_, .bl _, ?_⟩
        refine iteF ?_
        repeat (walk_at "s")
        exact ⟨M, LeM.refl, q⟩
    · rw [if_neg c] at q
      have q1 : RB BIG (rquo (rdif lo s) far) := ((hl.dif hs).quo hfr c).mono (by omega)
      have q2 : RB BIG (rquo (rdif hi s) far) := ((hh.dif hs).quo hfr c).mono (by omega)
      repeat (walk_at "s")
      refine ⟨_, _, rfl, bl, bs, ?_⟩
      repeat (walk_at "s")
      refine ⟨_, _, rfl, (hl.dif hs).mono (by omega), bf, c, ?_⟩
      repeat (walk_at "s")
      refine ⟨_, _, rfl, bh, bs, ?_⟩
      repeat (walk_at "s")
      refine ⟨_, _, rfl, (hh.dif hs).mono (by omega), bf, c, ?_⟩
      repeat (walk_at "s")
      refine ⟨by show 2 ≤ sizeLine; decide, fun p np => ?_⟩
      generalize rquo (rdif lo s) far = r1 at q q1 ⊢
      generalize rquo (rdif hi s) far = r2 at q q2 ⊢
      dsimp only at q
      refine wss_cut (fun σ M' => ∃ (w : VV) (r r' : Rt), LeM M M' ∧ Lst M' w [vr r, vr r'] ∧ σ = [some (.tup [vr a, vr b]), some (vr s), some (vr far), some (vr lo), some (vr hi), none, some w, none, none] ∧ RB BIG r ∧ RB BIG r' ∧ r = (if far.1 < 0 then r2 else r1) ∧ r' = (if far.1 < 0 then r1 else r2)) ?_ ?_
      · repeat (walk_at "s")
        refine ite_dec (fun c2 => ?_) (fun c2 => ?_)
        · repeat (walk_at "s")
          refine ⟨_, .ref updM_same, fun p' np' => ?_⟩
          repeat (walk_at "s")
          exact ⟨.ref p', r2, r1, (LeM.new np).trans (LeM.new np'), .ref updM_same, rfl, q2, q1, by rw [if_pos c2], by rw [if_pos c2]⟩
        · repeat (walk_at "s")
          exact ⟨.ref p, r1, r2, LeM.new np, .ref updM_same, rfl, q1, q2, by rw [if_neg c2], by rw [if_neg c2]⟩
      rintro σ M' ⟨w, r, r', le, hw, rfl, hr, hr', e1, e2⟩
      rw [← e1, ← e2] at q
      refine wss_cut (fun σ M2 => ∃ f : Rt, M' = M2 ∧ σ = [some (.tup [vr a, vr b]), some (vr s), some (vr far), some (vr lo), some (vr hi), none, some w, some (vr f), none] ∧ RB BIG f ∧ f = if rcomp a r < 0 then r else a) ?_ ?_
      · repeat (walk_at "s")
        refine oi_lst hw rfl ?_
        repeat (walk_at "s")
        refine ⟨_, _, rfl, ha, hr, ?_⟩
        repeat (walk_at "s")
        refine ite_dec (fun c2 => ?_) (fun c2 => ?_)
        · repeat (walk_at "s")
          refine oi_lst hw rfl ?_
          exact ⟨r, rfl, rfl, hr, by rw [if_pos c2]⟩
        · repeat (walk_at "s")
          exact ⟨a, rfl, rfl, ha, by rw [if_neg c2]⟩
      rintro σ M2 ⟨f, rfl, rfl, hf', ef⟩
      rw [← ef] at q
      refine wss_cut (fun σ M2 => ∃ l : Rt, M' = M2 ∧ σ = [some (.tup [vr a, vr b]), some (vr s), some (vr far), some (vr lo), some (vr hi), none, some w, some (vr f), some (vr l)] ∧ RB BIG l ∧ l = if rcomp r' b < 0 then r' else b) ?_ ?_
      · repeat (walk_at "s")
        refine oi_lst hw rfl ?_
        repeat (walk_at "s")
        refine ⟨_, _, rfl, hr', hb, ?_⟩
        repeat (walk_at "s")
        refine ite_dec (fun c2 => ?_) (fun c2 => ?_)
        · repeat (walk_at "s")
          refine oi_lst hw rfl ?_
          exact ⟨r', rfl, rfl, hr', by rw [if_pos c2]⟩
        · repeat (walk_at "s")
          exact ⟨b, rfl, rfl, hb, by rw [if_neg c2]⟩
      rintro σ M2 ⟨l, rfl, rfl, hl', el⟩
      rw [← el] at q
      repeat (walk_at "s")
      refine ⟨_, _, rfl, hf', hl', ?_⟩
      repeat (walk_at "s")
      refine ite_dec (fun c2 => ?_) (fun c2 => ?_)
      · rw [if_pos c2] at q
        repeat (walk_at "s")
        exact ⟨by show 2 ≤ sizeLine; decide, M, le, q⟩
      · rw [if_neg c2] at q
        repeat (walk_at "s")
        exact ⟨M, le, q⟩
theorem spanG_bits {o : Option (Rt × Rt)} {s far lo hi : Rt} {n a m l N : Nat} (bits : ∀ r, o = some r → RB n r.1 ∧ RB n r.2) (hs : RB a s) (hf : RB m far) (hl : RB l lo) (hh : RB l hi) (k1 : n ≤ N) (k2 : l + a + 1 + m ≤ N) : ∀ r, spanR o s far lo hi = some r → RB N r.1 ∧ RB N r.2 := fun r h => by
  cases o with
  | none => cases h
  | some p =>
    obtain ⟨x, y⟩ := p
    obtain ⟨hx, hy⟩ := bits _ rfl
    have h' : (if far.1 = 0 then (if rcomp lo s ≤ 0 ∧ rcomp s hi ≤ 0 then some (x, y) else none)
      else
        let e1 := rquo (rdif lo s) far
        let e2 := rquo (rdif hi s) far
        let f := if rcomp x (if far.1 < 0 then e2 else e1) < 0 then (if far.1 < 0 then e2 else e1) else x
        let l := if rcomp (if far.1 < 0 then e1 else e2) y < 0 then (if far.1 < 0 then e1 else e2) else y
        if rcomp f l ≤ 0 then some (f, l) else none) = some r := h
    by_cases c : far.1 = 0
    · rw [if_pos c] at h'
      split at h'
      · cases h'; exact ⟨hx.mono k1, hy.mono k1⟩
      · cases h'
    · rw [if_neg c] at h'
      have q1 : RB N (rquo (rdif lo s) far) := ((hl.dif hs).quo hf c).mono k2
      have q2 : RB N (rquo (rdif hi s) far) := ((hh.dif hs).quo hf c).mono k2
      generalize rquo (rdif lo s) far = e1 at q1 h'
      generalize rquo (rdif hi s) far = e2 at q2 h'
      dsimp only at h'
      have u : RB N (if far.1 < 0 then e2 else e1) := by split <;> assumption
      have v : RB N (if far.1 < 0 then e1 else e2) := by split <;> assumption
      generalize (if far.1 < 0 then e2 else e1) = z1 at u h'
      generalize (if far.1 < 0 then e1 else e2) = z2 at v h'
      have w1 : RB N (if rcomp x z1 < 0 then z1 else x) := by
        split
        · exact u
        · exact hx.mono k1
      have w2 : RB N (if rcomp z2 y < 0 then z2 else y) := by
        split
        · exact v
        · exact hy.mono k1
      generalize (if rcomp x z1 < 0 then z1 else x) = y1 at w1 h'
      generalize (if rcomp z2 y < 0 then z2 else y) = y2 at w2 h'
      split at h'
      · cases h'; exact ⟨w1, w2⟩
      · cases h'
theorem df_clipG {E : Ev} (hR : E.mg "range" = none) (D1 : E.df 3 "_law_span" ["_law_bits_here", "_law_start", "_law_far", "_law_low", "_law_high"] spSpanG) (D3 : E.df 2 "_law_dif" ["_law_one", "_law_two"] (spBin rdif))
    (T : Tx E "_law_clip" (top 48) ["_law_one", "_law_two", "_law_low", "_law_high"]) : E.df 4 "_law_clip" ["_law_one", "_law_two", "_law_low", "_law_high"] spClipG := by
  refine T.df ["_law_one", "_law_two", "_law_low", "_law_high", "_law_bits_here", "_law_k"] ⟨rfl, rfl, rfl, by decide +kernel, rfl, by decide +kernel, by decide +kernel⟩ (fun ws M Q ⟨_, _, _, _, _, _, _, e, _⟩ => by rw [e]; rfl) fun X B ws M Q ⟨w, u, a, b, lo, hi, l, e, hw, hu, ha, hb, hl, hh, hn, q⟩ => ?_
  subst e
  have b0 : ∀ r, some (((0 : Int), (1 : Int)), ((1 : Int), (1 : Int))) = some r → RB BIG r.1 ∧ RB BIG r.2 := fun r h => by cases h; exact ⟨RB.zero.mono (by decide), ⟨Nat.one_lt_two_pow (by decide), Nat.one_lt_two_pow (by decide), by decide⟩⟩
  have fx := (hb.x.dif ha.x).mono (m := 73) (by decide)
  have fy := (hb.y.dif ha.y).mono (m := 73) (by decide)
  have b1 := spanG_bits (N := BIG) b0 ha.x fx hl.x hh.x (Nat.le_refl _) (by omega)
  show WSs X _ [some (vsp a), some (vsp b), some (w), some (u), none, none] M _
  repeat (walk_at "s")
  refine ⟨by show 2 ≤ sizeLine; decide, ?_⟩
  repeat (walk_at "s")
  refine ⟨by show 2 ≤ sizeLine; decide, ?_⟩
  repeat (walk_at "s")
  refine ⟨by show 2 ≤ sizeLine; decide, ?_⟩
  repeat (walk_at "s")
  refine ws_forRange1 B rfl hR ?_
  repeat (walk_at "s")
  refine ⟨_, rfl, ⟨by omega, by omega⟩, fun i σ M' => M = M' ∧ ∃ (x5 : Option VV), σ = [some (vsp a), some (vsp b), some (w), some (u), some (optv (if i = 0 then some ((0, 1), (1, 1)) else if i = 1 then spanR (some ((0, 1), (1, 1))) a.1 (rdif b.1 a.1) lo.1 hi.1 else clipR a b lo hi)), x5],
    ⟨rfl, _, rfl⟩, fun _ _ _ _ _ => trivial, ?_, ?_⟩
  · rintro i v σ M' hi' rfl ⟨rfl, x5, rfl⟩
    have hi2 : i = 0 ∨ i = 1 := by
      have : i < 2 := hi'
      omega
    rcases hi2 with rfl | rfl
    · walk_at "s"
      walk_at "s"
      repeat (walk_at "s")
      refine ⟨b.1, a.1, rfl, hb.x.big, ha.x.big, ?_⟩
      repeat (walk_at "s")
      refine oi_two0 hw ?_
      repeat (walk_at "s")
      refine oi_two0 hu ?_
      repeat (walk_at "s")
      refine ⟨some ((0, 1), (1, 1)), a.1, rdif b.1 a.1, lo.1, hi.1, 36, 73, l, rfl, b0, ha.x, fx, hl.x, hh.x, by omega, ?_⟩
      repeat (walk_at "s")
      exact ⟨rfl, _, rfl⟩
    · walk_at "s"
      walk_at "s"
      repeat (walk_at "s")
      refine ⟨b.2, a.2, rfl, hb.y.big, ha.y.big, ?_⟩
      repeat (walk_at "s")
      refine oi_two1 hw ?_
      repeat (walk_at "s")
      refine oi_two1 hu ?_
      repeat (walk_at "s")
      refine ⟨spanR (some ((0, 1), (1, 1))) a.1 (rdif b.1 a.1) lo.1 hi.1, a.2, rdif b.2 a.2, lo.2, hi.2, 36, 73, l, rfl, b1, ha.y, fy, hl.y, hh.y, by omega, ?_⟩
      repeat (walk_at "s")
      exact ⟨rfl, _, rfl⟩
  · rintro σ M' ⟨rfl, x5, rfl⟩
    repeat (walk_at "s")
    exact ⟨M, LeM.refl, q⟩
theorem df_reachG {E : Ev} (hR : E.mg "range" = none) (hL : E.mg "len" = none) (hMx : E.mg "max" = none) (D1 : E.df 4 "_law_clip" ["_law_one", "_law_two", "_law_low", "_law_high"] spClipG) (D2 : E.df 2 "_law_dif" ["_law_one", "_law_two"] (spBin rdif)) (D3 : E.df 2 "_law_sum" ["_law_one", "_law_two"] (spBin rsum))
    (T : Tx E "_law_reaches" (top 49) ["_law_spot_here", "_law_polyline", "_law_room"]) : E.df 5 "_law_reaches" ["_law_spot_here", "_law_polyline", "_law_room"] spReachG := by
  refine T.df ["_law_spot_here", "_law_polyline", "_law_room", "_law_low", "_law_high", "_law_k", "_law_one"] ⟨rfl, rfl, rfl, by decide +kernel, rfl, by decide +kernel, by decide +kernel⟩ (fun ws M Q ⟨_, _, _, _, _, _, e, _⟩ => by rw [e]; rfl) fun X B ws M Q ⟨w, row, s, r, n, m, e, hw, hlen, hb, hs, hr, hn, q⟩ => ?_
  subst e
  have bL := bb_len
  have bMx := bb_max
  show WSs X _ [some (vsp s), some w, some (vr r), none, none, none, none] M _
  have br : RB BIG r := hr.mono (by omega)
  have bsx : RB BIG s.1 := hs.x.mono (by omega)
  have bsy : RB BIG s.2 := hs.y.mono (by omega)
  repeat (walk_at "s")
  refine ⟨_, _, rfl, bsx, br, ?_⟩
  repeat (walk_at "s")
  refine ⟨_, _, rfl, bsy, br, ?_⟩
  repeat (walk_at "s")
  refine ⟨by show 2 ≤ sizeLine; decide, ?_⟩
  repeat (walk_at "s")
  refine ⟨_, _, rfl, bsx, br, ?_⟩
  repeat (walk_at "s")
  refine ⟨_, _, rfl, bsy, br, ?_⟩
  repeat (walk_at "s")
  refine ⟨by show 2 ≤ sizeLine; decide, ?_⟩
  have bl : SB (n + m + 1) (boxL s r) := ⟨hs.x.dif hr, hs.y.dif hr⟩
  have bh : SB (n + m + 1) (boxH s r) := ⟨hs.x.sum hr, hs.y.sum hr⟩
  repeat (walk_at "s")
  refine ws_forRange1 B rfl hR ?_
  repeat (walk_at "s")
  refine oc_len hw ?_
  rw [List.length_map]
  repeat (walk_at "s")
  refine ⟨_, rfl, ⟨by omega, by omega⟩, fun i σ M' => M = M' ∧ (∀ k, k < i → (clipR (row.getD (k - 1) ((0, 1), (0, 1))) (row.getD k ((0, 1), (0, 1))) (boxL s r) (boxH s r)).isSome = false) ∧ ∃ y z : Option VV, σ = [some (vsp s), some w, some (vr r), some (vsp (boxL s r)), some (vsp (boxH s r)), y, z],
    ⟨rfl, fun k hk => absurd hk (Nat.not_lt_zero _), _, _, rfl⟩, fun _ _ _ _ _ => trivial, ?_, ?_⟩
  · rintro i u σ M' hi' rfl ⟨rfl, hno, y, z, rfl⟩
    have hi : i < row.length := by omega
    have hi1 : i - 1 < row.length := by omega
    have g0 : (row.map vsp)[i]? = some (vsp (row.getD i ((0, 1), (0, 1)))) := by
      rw [List.getElem?_map, List.getD_eq_getElem?_getD]; simp [hi]
    have g1 : (row.map vsp)[i - 1]? = some (vsp (row.getD (i - 1) ((0, 1), (0, 1)))) := by
      rw [List.getElem?_map, List.getD_eq_getElem?_getD]; simp [hi1]
    have b0 : SB 36 (row.getD i ((0, 1), (0, 1))) := by
      rw [List.getD_eq_getElem?_getD]; simp only [List.getElem?_eq_getElem hi, Option.getD_some]; exact hb _ (List.getElem_mem _)
    have b1 : SB 36 (row.getD (i - 1) ((0, 1), (0, 1))) := by
      rw [List.getD_eq_getElem?_getD]; simp only [List.getElem?_eq_getElem hi1, Option.getD_some]; exact hb _ (List.getElem_mem _)
    walk_at "s"
    walk_at "s"
    repeat (walk_at "s")
    refine oc_max2 B.calm ?_
    have em : (if (i : Int) - 1 > 0 then (i : Int) - 1 else 0) = ((i - 1 : Nat) : Int) := by split <;> omega
    rw [em]
    refine oi_lst hw (atI_nat g1) ?_
    repeat (walk_at "s")
    refine oi_lst hw (atI_nat g0) ?_
    repeat (walk_at "s")
    refine ⟨_, _, _, _, _, _, n + m + 1, rfl, .inl rfl, .inl rfl, b1, b0, bl, bh, by omega, ?_⟩
    repeat (walk_at "s")
    cases hcl : clipR (row.getD (i - 1) ((0, 1), (0, 1))) (row.getD i ((0, 1), (0, 1))) (boxL s r) (boxH s r) with
    | none =>
      refine iteF ?_
      repeat (walk_at "s")
      refine ⟨rfl, fun k hk => ?_, _, _, rfl⟩
      by_cases c : k = i
      · subst c; rw [hcl]; rfl
      · exact hno k (by omega)
    | some z =>
      refine iteT ?_
      have e : reachF row s r = true := List.any_eq_true.mpr ⟨i, List.mem_range.mpr hi, by rw [hcl]; rfl⟩
      rw [e] at q
      repeat (walk_at "s")
      exact ⟨M, LeM.refl, q⟩
  · rintro σ M' ⟨rfl, hno, y, z, rfl⟩
    rw [Int.toNat_natCast] at hno
    have e : reachF row s r = false := by
      unfold reachF
      rw [List.any_eq_false]
      intro k hk
      rw [hno k (List.mem_range.mp hk)]
      decide
    rw [e] at q
    repeat (walk_at "s")
    exact ⟨M, LeM.refl, q⟩

theorem df_isspot {E : Ev} (hI : E.mg "isinstance" = none) (hTu : E.mg "tuple" = none) (hL : E.mg "len" = none) (D1 : E.df 2 "_law_is_ratio" ["_law_one"] spIsRatio)
    (T : Tx E "_law_is_spot" (top 42) ["_law_spot_here"]) : E.df 3 "_law_is_spot" ["_law_spot_here"] spIsSpot := by
  refine T.df ["_law_spot_here"] ⟨rfl, rfl, rfl, by decide +kernel, rfl, by decide +kernel, by decide +kernel⟩ (fun ws M Q ⟨_, e, _⟩ => by rw [e]; rfl) fun X B ws M Q ⟨s, e, ⟨x0, xg, xz⟩, ⟨y0, yg, yz⟩, q⟩ => ?_
  subst e
  have bI := bb_isi
  have bT := bb_tuple
  have bL := bb_len
  show WSs X _ [some (vsp s)] M _
  repeat (walk_at "s")
  refine oc_isi (.tup _) (b := true) (by decide +kernel) ?_
  refine ⟨_, .bl _, ?_⟩
  refine ite_no (by decide) ?_
  repeat (walk_at "s")
  refine ite_no (by show ¬ (!decide ((2 : Int) = 2)) = true; decide) ?_
  repeat (walk_at "s")
  refine ⟨s.1, rfl, x0, xg, xz, ?_⟩
  refine ⟨_, rfl, ?_⟩
  refine iteT ?_
  repeat (walk_at "s")
  refine ⟨s.2, rfl, y0, yg, yz, ?_⟩
  exact ⟨M, LeM.refl, q⟩
end G3

set_option Elab.async false
set_option linter.all false
set_option maxRecDepth 100000
set_option maxHeartbeats 4000000
set_option pp.maxSteps 1000
namespace G3
open PySem PySem.Spec L2
local macro_rules | `(tactic| walk_at "at") => `(tactic| with_reducible (repeat (first | exact At.here | apply At.there)))
local macro_rules | `(tactic| walk_at "vis") => `(tactic| first | exact Or.inl rfl | exact Or.inr (Or.inl rfl) | exact Or.inr (Or.inr rfl))
local macro_rules | `(tactic| walk_at "loc") => `(tactic| first | exact Or.inl rfl | exact Or.inr rfl)
local macro_rules | `(tactic| walk_at "as") => `(tactic| with_reducible assumption)
local macro_rules | `(tactic| walk_at "e") => `(tactic| first
  | ((with_reducible show G3.WE _ (.Name _ _) _ _ _); first | refine we_nm (by walk_at "as") (by walk_at "at") (by walk_at "vis") (by rfl) ?_ | refine we_tyn (by walk_at "as") (by rfl) (by walk_at "as") (by walk_at "as") ?_ | refine we_cls (C := He.ga _ _) (by walk_at "as") (by rfl) (by walk_at "as") ?_ | refine we_nmH (by walk_at "as") (by walk_at "at") (by walk_at "vis") (by rfl) ?_ | refine we_tynH (by walk_at "as") (by rfl) (by walk_at "as") (by walk_at "as") ?_ | refine we_clsH (C := He.ga _ _) (by walk_at "as") (by rfl) (by walk_at "as") ?_)
  | ((with_reducible show G3.WE _ (.Constant (.int _) _ _) _ _ _); refine we_int ?_)
  | ((with_reducible show G3.WE _ (.Subscript _ (.Slice _ _ (some _) _) _) _ _ _); refine we_rev ?_)
  | ((with_reducible show G3.WE _ (.Subscript _ (.Slice _ _ none _) _) _ _ _); refine we_slice ?_)
  | ((with_reducible show G3.WE _ (.Subscript _ _ _) _ _ _); refine we_ix ?_)
  | ((with_reducible show G3.WE _ (.BinOp _ _ _ _) _ _ _); refine we_op ?_)
  | ((with_reducible show G3.WE _ (.Call (.Name _ _) _ _ _) _ _ _); first
      | refine we_call (by walk_at "as") (by walk_at "as") (by decide) (by rfl) ?_
      | refine we_callB (by walk_at "as") (by rfl) (by walk_at "as") (by walk_at "as") ?_
      | refine we_callTy (by walk_at "as") (by rfl) (by walk_at "as") (by walk_at "as") ?_
      | refine we_callX (by walk_at "as") (by walk_at "as") (by walk_at "as") (by decide) (by rfl) (by walk_at "as") ?_
      | refine we_callBH (by walk_at "as") (by rfl) (by walk_at "as") (by walk_at "as") ?_)
  | ((with_reducible show G3.WE _ (.Attribute _ _ _) _ _ _); first | refine we_fld (by walk_at "as") ?_ | refine we_xfH (by walk_at "as") (by walk_at "as") (by walk_at "as") (by walk_at "as") ?_)
  | ((with_reducible show G3.WE _ (.Tuple _ _ _) _ _ _); refine we_tup ?_)
  | ((with_reducible show G3.WE _ (.List _ _) _ _ _); first | refine we_lstN ?_ | refine we_lst ?_)
  | ((with_reducible show G3.WE _ (.Compare _ [_] _ _) _ _ _); refine we_cmp ?_)
  | ((with_reducible show G3.WE _ (.Compare _ [_, _] _ _) _ _ _); refine we_chain ?_)
  | ((with_reducible show G3.WE _ (.UnaryOp .Not _ _) _ _ _); refine we_not ?_)
  | ((with_reducible show G3.WE _ (.UnaryOp _ _ _) _ _ _); refine we_un ?_)
  | ((with_reducible show G3.WE _ (.IfExp _ _ _ _) _ _ _); refine we_if ?_)
  | ((with_reducible show G3.WE _ (.Constant _ _ _) _ _ _); first | refine we_bl ?_ | refine we_non ?_ | refine we_str ?_)
  | ((with_reducible show G3.WE _ (.JoinedStr (_ :: _ :: _) _) _ _ _); refine we_joined ?_)
  | ((with_reducible show G3.WE _ (.FormattedValue _ _ _ _) _ _ _); refine we_fmt ?_)
  | ((with_reducible show G3.WE _ (.BoolOp _ [_] _) _ _ _); refine we_one ?_)
  | ((with_reducible show G3.WE _ (.BoolOp .And _ _) _ _ _); refine we_and ?_)
  | ((with_reducible show G3.WE _ (.BoolOp .Or _ _) _ _ _); refine we_or ?_))
local macro_rules | `(tactic| walk_at "t") => `(tactic| first
  | ((with_reducible show WT _ (.Compare _ [_] _ _) _ _ _); refine wt_cmp ?_)
  | ((with_reducible show WT _ (.Compare _ [_, _] _ _) _ _ _); refine wt_chain ?_)
  | ((with_reducible show WT _ (.UnaryOp .Not _ _) _ _ _); refine wt_not ?_)
  | ((with_reducible show WT _ (.BoolOp .And _ _) _ _ _); refine wt_w (ww_and ?_))
  | ((with_reducible show WT _ (.BoolOp .Or _ _) _ _ _); refine wt_w (ww_or ?_))
  | refine wt_truth ?_)
local macro_rules | `(tactic| walk_at "w") => `(tactic| first
  | ((with_reducible show WW _ (.BoolOp .And [_] _) _ _ _); refine ww_and1 ?_)
  | ((with_reducible show WW _ (.BoolOp .Or [_] _) _ _ _); refine ww_or1 ?_)
  | ((with_reducible show WW _ (.BoolOp .And _ _) _ _ _); refine ww_and ?_)
  | ((with_reducible show WW _ (.BoolOp .Or _ _) _ _ _); refine ww_or ?_))
local macro_rules | `(tactic| walk_at "st") => `(tactic| first
  | ((with_reducible show WS _ (.Assign [.Name _ _] (.ListComp _ _ _ _) _) _ _ _); fail)
  | ((with_reducible show WS _ (.Assign [.Name _ _] _ _) _ _ _); first | refine ws_set (by walk_at "as") (by walk_at "at") (by walk_at "loc") ?_ | refine ws_setH (by walk_at "as") (by walk_at "at") (by walk_at "loc") ?_)
  | ((with_reducible show WS _ (.Return (some _) _) _ _ _); refine ws_ret ?_)
  | ((with_reducible show WS _ (.If _ _ _ _) _ _ _); refine ws_if ?_)
  | ((with_reducible show WS _ (.Expr (.Call (.Attribute _ "append" _) _ _ _) _) _ _ _); refine ws_append ?_)
  | ((with_reducible show WS _ (.Expr (.Call (.Attribute _ "insert" _) _ _ _) _) _ _ _); refine ws_insert ?_)
  | ((with_reducible show WS _ (.Expr _ _) _ _ _); refine ws_expr ?_)
  | ((with_reducible show WS _ (.Assign [.Tuple _ _ _] (.Tuple _ _ _) _) _ _ _); first
      | refine ws_par2 (by walk_at "as") (by walk_at "at") (by walk_at "at") (by rfl) (by rfl) (by rfl) (by rfl) ?_
      | refine ws_asgT (by walk_at "as") (by rfl) ?_)
  | ((with_reducible show WS _ (.Raise (some _) none _) _ _ _); refine ws_raise (by walk_at "as") (by walk_at "as") ?_)
  | ((with_reducible show WS _ (.Assign [_] _ _) _ _ _); (fail_if_success (with_reducible show WS _ (.Assign [.Attribute _ _ _] _ _) _ _ _)); refine ws_asg ?_)
  | ((with_reducible show WS _ (.Return none _) _ _ _); refine ws_retN ?_)
  | ((with_reducible show WS _ (.Pass _) _ _ _); refine ws_pass ?_)
  | ((with_reducible show WS _ (.Break _) _ _ _); refine ws_break ?_)
  | ((with_reducible show WS _ (.Continue _) _ _ _); refine ws_continue ?_))
local macro_rules | `(tactic| walk_at "mul") => `(tactic| with_unfolding_all first
  | exact cml (by decide) (by decide)
  | exact cmr (by decide) (by decide)
  | exact cmw (by with_reducible assumption) (by with_reducible assumption) (by decide) (by decide) (by decide)
  | exact cml (by omega) (by omega)
  | exact cmr (by omega) (by omega))
local macro_rules | `(tactic| walk_at "o2") => `(tactic| with_reducible first
  | refine o2_add ?_
  | refine o2_sub ?_
  | refine o2_mul (by walk_at "mul") ?_
  | refine o2_lt ?_
  | refine o2_le ?_
  | refine o2_gt ?_
  | refine o2_ge ?_
  | refine o2_eqi ?_
  | refine o2_nei ?_
  | refine o2_eqb ?_
  | refine o2_neb ?_
  | refine o2_eqs ?_
  | refine o2_nes ?_
  | refine o2_isN ?_
  | refine o2_notN ?_)
local macro_rules | `(tactic| walk_at "x") => `(tactic| first
  | ((with_reducible show G3.WE _ _ _ _ _); walk_at "e")
  | ((with_reducible show WA _ _ _ _ _); first | refine wa_cons ?_ | refine wa_nil ?_)
  | ((with_reducible show WMk _ (.Call (.Name _ _) [] _ _) _ _ _); refine wmk_own0 (by walk_at "as") (by walk_at "as") (by decide) (by rfl) ?_)
  | ((with_reducible show WO _ _ _ _ _); first | (show G3.WE _ _ _ _ _))
  | ((with_reducible show WT _ _ _ _ _); walk_at "t")
  | ((with_reducible show G3.WJ _ _ _ _ _ _); first | refine wj_cons ?_ | refine wj_nil ?_)
  | ((with_reducible show G3.WK _ _ _ _ _); first | refine wk_cons ?_ | refine wk_nil ?_)
  | ((with_reducible show WW _ _ _ _ _); walk_at "w")
  | ((with_reducible show WS _ _ _ _ _); walk_at "st")
  | ((with_reducible show O2 _ _ _ _ _ _); walk_at "o2")
  | ((with_reducible show OI _ (.tup _) _ _ _); refine oi_tup rfl ?_)
  | ((with_reducible show OC _ _ _ _ _); with_reducible first | refine oc_abs ?_ | refine oc_int ?_ | refine oc_intb ?_ | refine oc_lenT ?_)
  | ((with_reducible show O1 _ _ _ _ _); refine o1_neg ?_)
  | ((with_reducible show BQ _ _ _); refine ⟨_, rfl, ?_⟩)
  | ((with_reducible show WG _ _ _ _ _ _); first | refine wg_name (by walk_at "as") (by walk_at "at") (by walk_at "loc") ?_ | refine wg_tup (by walk_at "as") ?_)
  | ((with_reducible show WGs _ _ _ _ _ _); first | refine wgs_cons (by walk_at "as") (by walk_at "at") (by walk_at "loc") ?_ | refine wgs_nil ?_))
local macro_rules | `(tactic| walk_at "s") => `(tactic| first
  | walk_at "x"
  | ((with_reducible show WSs _ _ _ _ _); first | refine wss_cons ?_ | refine wss_nil ?_))
theorem df_ratioV {E : Ev} (D1 : E.df 2 "_law_any" ["_law_bag_here", "_law_some"] spAny) (D2 : E.df 1 "_law_draw" ["_law_bag_here", "_law_many"] spDraw) (D3 : E.df 1 "_law_rat" ["_law_over", "_law_under"] spRat) (T : Tx E "_law_ratio" (top 43) ["_law_bag_here", "_law_reach"]) : E.df 3 "_law_ratio" ["_law_bag_here", "_law_reach"] spRatioV := by
  refine T.df ["_law_bag_here", "_law_reach", "_law_low", "_law_room"] ⟨rfl, rfl, rfl, by decide +kernel, rfl, by decide +kernel, by decide +kernel⟩ (fun ws M Q ⟨_, _, e, _⟩ => by rw [e]; rfl) fun X B ws M Q ⟨b, reach, e, hb, h1, q⟩ => ?_
  subst e
  show WSs X _ [some (.ref b), some (.int (reach : Nat)), none, none] M _
  repeat (walk_at "s")
  refine ⟨by show 8 ≤ sizeLine; decide, fun p np => ?_⟩
  repeat (walk_at "s")
  have hb' : (updM M p (.lst [.int 1, .int 1, .int 2, .int 2, .int 3, .int 4, .int 7, .int 60])) b = some .bag := by rw [updM_ne (neM hb np)]; exact hb
  refine ⟨b, _, _, rfl, hb', .ref updM_same, by show 0 < 8; decide, by show 8 < 1000000; decide, fun x hx => ?_⟩
  obtain ⟨lo, rfl, l1, l2⟩ : ∃ lo : Nat, x = .int lo ∧ 1 ≤ lo ∧ lo ≤ 60 := by
    simp only [List.mem_cons, List.not_mem_nil, or_false] at hx
    rcases hx with h | h | h | h | h | h | h | h
    · exact ⟨1, h, by decide, by decide⟩
    · exact ⟨1, h, by decide, by decide⟩
    · exact ⟨2, h, by decide, by decide⟩
    · exact ⟨2, h, by decide, by decide⟩
    · exact ⟨3, h, by decide, by decide⟩
    · exact ⟨4, h, by decide, by decide⟩
    · exact ⟨7, h, by decide, by decide⟩
    · exact ⟨60, h, by decide, by decide⟩
  repeat (walk_at "s")
  have m1 : reach * lo ≤ 6000 := Nat.mul_le_mul h1 l2
  have ec : (reach : Int) * (lo : Int) = ((reach * lo : Nat) : Int) := (Int.natCast_mul _ _).symm
  rw [ec]
  generalize hroom : reach * lo = room at m1
  repeat (walk_at "s")
  refine ⟨b, _, rfl, hb', by omega, by omega, fun r r0 r1 => ?_⟩
  repeat (walk_at "s")
  refine ⟨_, _, rfl, by omega, Nat.lt_of_lt_of_le (show (lo : Int).natAbs < 2 ^ 13 by omega) (Nat.pow_le_pow_right (by decide) (by decide)), M, LeM.new np, q _ ?_⟩
  refine vb_nrm (by omega) (by omega) ?_
  rw [Int.natAbs_natCast, hroom]
  omega
theorem df_spotV {E : Ev} (D1 : E.df 3 "_law_ratio" ["_law_bag_here", "_law_reach"] spRatioV) (T : Tx E "_law_spot" (top 44) ["_law_bag_here", "_law_reach"]) : E.df 4 "_law_spot" ["_law_bag_here", "_law_reach"] spSpotV := by
  refine T.df ["_law_bag_here", "_law_reach"] ⟨rfl, rfl, rfl, by decide +kernel, rfl, by decide +kernel, by decide +kernel⟩ (fun ws M Q ⟨_, _, e, _⟩ => by rw [e]; rfl) fun X B ws M Q ⟨b, reach, e, hb, h1, q⟩ => ?_
  subst e
  show WSs X _ [some (.ref b), some (.int (reach : Nat))] M _
  repeat (walk_at "s")
  refine ⟨b, reach, rfl, hb, h1, fun x hx => ?_⟩
  repeat (walk_at "s")
  refine ⟨b, reach, rfl, hb, h1, fun y hy => ?_⟩
  repeat (walk_at "s")
  exact ⟨by show 2 ≤ sizeLine; decide, M, LeM.refl, q (x, y) hx hy⟩
theorem df_cornersV {E : Ev} (hR : E.mg "range" = none) (D1 : E.df 1 "_law_draw" ["_law_bag_here", "_law_many"] spDraw) (D2 : E.df 4 "_law_spot" ["_law_bag_here", "_law_reach"] spSpotV) (D3 : E.df 2 "_law_sum" ["_law_one", "_law_two"] (spBin rsum)) (D4 : E.df 3 "_law_ratio" ["_law_bag_here", "_law_reach"] spRatioV) (D5 : E.df 2 "_law_any" ["_law_bag_here", "_law_some"] spAny)
    (T : Tx E "_law_corners" (top 46) ["_law_bag_here", "_law_many"]) : E.df 5 "_law_corners" ["_law_bag_here", "_law_many"] spCornersV := by
  refine T.df ["_law_bag_here", "_law_many", "_law_row", "_law_k", "_law_spot_here", "_law_x"] ⟨rfl, rfl, rfl, by decide +kernel, rfl, by decide +kernel, by decide +kernel⟩ (fun ws M Q ⟨_, e, _⟩ => by rw [e]; rfl) fun X B ws M Q ⟨b, e, hb, q⟩ => ?_
  subst e
  show WSs X _ [some (.ref b), some (.int 4), none, none, none, none] M _
  repeat (walk_at "s")
  refine ⟨by show 0 ≤ sizeLine; decide, fun p np => ?_⟩
  have hbp : ∀ o M', LeM (updM M p o) M' → M' b = some .bag := fun o M' l => l _ _ (by rw [updM_ne (neM hb np)]; exact hb)
  repeat (walk_at "s")
  refine ws_forRange1 B rfl hR ?_
  repeat (walk_at "s")
  refine ⟨b, 4, rfl, hbp _ _ LeM.refl, by decide, by decide, fun r r0 r1 => ?_⟩
  repeat (walk_at "s")
  refine ⟨_, rfl, ⟨by omega, by omega⟩, fun i σ M' => ∃ row : List Spt, LeM (updM M p (.lst (row.map vsp))) M' ∧ row.length = i ∧ (∀ s ∈ row, XB (i - 1) s) ∧ ∃ (x3 x4 x5 : Option VV), σ = [some (.ref b), some (.int 4), some (.ref p), x3, x4, x5],
    ⟨[], LeM.refl, rfl, (fun s h => by cases h), _, _, _, rfl⟩, fun _ _ _ _ _ => trivial, ?_, ?_⟩
  · rintro i u σ M' hi rfl ⟨row, le, hlen, hsb, x3, x4, x5, rfl⟩
    have i4 : i ≤ 4 := by omega
    walk_at "s"
    walk_at "s"
    repeat (walk_at "s")
    refine ⟨b, 20, rfl, hbp _ _ le, by decide, fun s hs1 hs2 => ?_⟩
    have hmp : ∀ M', LeM (updM M p (.lst (row.map vsp))) M' → M' p = some (.lst (row.map vsp)) := fun M' l => l _ _ updM_same
    have hs' : XB i s := XB.mono (i := 0) ⟨hs1.mono (by decide) (by decide), hs2.mono (by decide) (by decide)⟩ (Nat.zero_le _)
    clear hs1 hs2
    refine wss_cut (fun σ M' => ∃ s : Spt, LeM (updM M p (.lst (row.map vsp))) M' ∧ XB i s ∧ ∃ z : Option VV, σ = [some (.ref b), some (.int 4), some (.ref p), some (.int i), some (vsp s), z]) ?_ ?_
    · repeat (walk_at "s")
      refine ⟨by show 0 ≤ sizeLine; decide, fun g ng => ?_⟩
      have leg := le.trans (LeM.new (o := .lst []) ng)
      refine o2_neT (x := row) (y := []) (by have := B.room.units; exact Nat.lt_of_le_of_lt (Nat.add_le_add_left (by decide : _ ≤ 64) _) this) (dw_lst dw_vsp (.ref (hmp _ leg))) (dw_lst dw_vsp (.ref updM_same)) ?_
      repeat (walk_at "s")
      refine ite_ndec (fun hr => ?_) (fun hr => ?_)
      · repeat (walk_at "s")
        refine ⟨b, 4, rfl, hbp _ _ leg, by decide, by decide, fun r2 _ _ => ?_⟩
        repeat (walk_at "s")
        refine ite_dec (fun hr2 => ?_) (fun hr2 => ?_)
        · obtain ⟨init, l, er⟩ := (List.eq_nil_or_concat row).resolve_left hr
          rw [List.concat_eq_append] at er
          have i1 : 1 ≤ i := by rw [← hlen, er]; simp
          have hl := hsb l (by rw [er]; simp)
          have hlb := (hl.mono (show i - 1 ≤ 4 by omega)).sb
          have hat : atI (row.map vsp) (-1) = some (vsp l) := by rw [er, List.map_append]; exact atI_last _ _
          repeat (walk_at "s")
          refine oi_lst (.ref (hmp _ leg)) hat ?_
          repeat (walk_at "s")
          refine ⟨b, 4, rfl, hbp _ _ leg, by decide, fun r3 hr3 => ?_⟩
          have r3b : RB 36 r3 := hr3.rb (by decide) (by decide)
          repeat (walk_at "s")
          refine ⟨_, _, rfl, hlb.x.big, r3b.big, ?_⟩
          repeat (walk_at "s")
          refine oi_lst (.ref (hmp _ leg)) hat ?_
          repeat (walk_at "s")
          refine ⟨by show 2 ≤ sizeLine; decide, ?_⟩
          repeat (walk_at "s")
          refine ⟨by show 2 ≤ sizeLine; decide, ?_⟩
          repeat (walk_at "s")
          refine ⟨by show 2 ≤ sizeLine; decide, ?_⟩
          repeat (walk_at "s")
          refine ⟨by show 2 ≤ sizeLine; decide, ?_⟩
          repeat (walk_at "s")
          refine ⟨by show 4 ≤ sizeLine; decide, fun g2 ng2 => ?_⟩
          repeat (walk_at "s")
          have leg2 := leg.trans (LeM.new (o := .lst [vr (0, 1), vr (1, 2), vr (0 - 1, 1), vr (1, 1)]) ng2)
          refine ⟨b, _, _, rfl, hbp _ _ leg2, .ref updM_same, by show 0 < 4; decide, by show 4 < 1000000; decide, fun x hx => ?_⟩
          obtain ⟨r4, rfl, hr4⟩ : ∃ r : Rt, x = vr r ∧ VB 4 60 r := by
            simp only [List.mem_cons, List.not_mem_nil, or_false] at hx
            rcases hx with h | h | h | h
            · exact ⟨(0, 1), h, by decide, by decide, by decide⟩
            · exact ⟨(1, 2), h, by decide, by decide, by decide⟩
            · exact ⟨(0 - 1, 1), h, by decide, by decide, by decide⟩
            · exact ⟨(1, 1), h, by decide, by decide, by decide⟩
          have r4b : RB 36 r4 := hr4.rb (by decide) (by decide)
          repeat (walk_at "s")
          refine ⟨_, _, rfl, hlb.y.big, r4b.big, ?_⟩
          repeat (walk_at "s")
          refine ⟨by show 2 ≤ sizeLine; decide, ?_⟩
          repeat (walk_at "s")
          exact ⟨(rsum l.1 r3, rsum l.2 r4), leg2, (hl.step hr3 hr4).mono (by omega), _, rfl⟩
        · repeat (walk_at "s")
          exact ⟨s, leg, hs', _, rfl⟩
      · refine iteF ?_
        repeat (walk_at "s")
        exact ⟨s, leg, hs', _, rfl⟩
    clear hs' le s
    rintro σ M' ⟨s, le, hs, z, rfl⟩
    refine wss_cut (fun σ M' => ∃ s : Spt, LeM (updM M p (.lst (row.map vsp))) M' ∧ XB i s ∧ ∃ z : Option VV, σ = [some (.ref b), some (.int 4), some (.ref p), some (.int i), some (vsp s), z]) ?_ ?_
    · repeat (walk_at "s")
      refine ⟨by show 0 ≤ sizeLine; decide, fun g ng => ?_⟩
      have leg := le.trans (LeM.new (o := .lst []) ng)
      refine o2_neT (x := row) (y := []) (by have := B.room.units; exact Nat.lt_of_le_of_lt (Nat.add_le_add_left (by decide : _ ≤ 64) _) this) (dw_lst dw_vsp (.ref (hmp _ leg))) (dw_lst dw_vsp (.ref updM_same)) ?_
      repeat (walk_at "s")
      refine ite_ndec (fun hr => ?_) (fun hr => ?_)
      · repeat (walk_at "s")
        refine ⟨b, 9, rfl, hbp _ _ leg, by decide, by decide, fun r2 _ _ => ?_⟩
        repeat (walk_at "s")
        refine ite_dec (fun hr2 => ?_) (fun hr2 => ?_)
        · repeat (walk_at "s")
          refine ⟨b, _, _, rfl, hbp _ _ leg, .ref (hmp _ leg), by rw [List.length_map]; exact List.length_pos_iff.mpr hr, by rw [List.length_map]; omega, fun x hx => ?_⟩
          obtain ⟨s2, h2, rfl⟩ := List.mem_map.mp hx
          repeat (walk_at "s")
          exact ⟨s2, leg, (hsb s2 h2).mono (by omega), _, rfl⟩
        · repeat (walk_at "s")
          exact ⟨s, leg, hs, _, rfl⟩
      · refine iteF ?_
        repeat (walk_at "s")
        exact ⟨s, leg, hs, _, rfl⟩
    clear hs le s z
    rintro σ M' ⟨s, le, hs, z, rfl⟩
    repeat (walk_at "s")
    refine ⟨p, _, rfl, hmp _ le, ?_⟩
    repeat (walk_at "s")
    refine ⟨_, hmp _ le, Nat.lt_of_le_of_lt (show (row.map vsp).length ≤ 11 by rw [List.length_map]; omega) (by decide), ?_⟩
    repeat (walk_at "s")
    refine ⟨row ++ [s], ?_, by rw [List.length_append, hlen]; rfl, fun s' h => ?_, _, _, _, rfl⟩
    · have l2 := LeM.upd (p := p) (o := .lst ((row ++ [s]).map vsp)) le
      rw [updM_updM] at l2
      rw [List.map_append] at l2 ⊢
      exact l2
    · rcases List.mem_append.mp h with h | h
      · exact (hsb s' h).mono (by omega)
      · rw [List.mem_singleton.mp h]; exact hs
  · rintro σ M' ⟨row, le, hlen, hsb, x3, x4, x5, rfl⟩
    repeat (walk_at "s")
    exact ⟨_, LeM.refl, q p row M' np ((LeM.new np).trans le) (by omega) (by omega) (fun s h => ((hsb s h).mono (by omega)).sb) (le _ _ updM_same)⟩
end G3

set_option Elab.async false
set_option linter.all false
set_option maxRecDepth 100000
set_option maxHeartbeats 4000000
set_option pp.maxSteps 1000
namespace G3
open PySem PySem.Spec L2
local macro_rules | `(tactic| walk_at "at") => `(tactic| with_reducible (repeat (first | exact At.here | apply At.there)))
local macro_rules | `(tactic| walk_at "vis") => `(tactic| first | exact Or.inl rfl | exact Or.inr (Or.inl rfl) | exact Or.inr (Or.inr rfl))
local macro_rules | `(tactic| walk_at "loc") => `(tactic| first | exact Or.inl rfl | exact Or.inr rfl)
local macro_rules | `(tactic| walk_at "as") => `(tactic| with_reducible assumption)
local macro_rules | `(tactic| walk_at "e") => `(tactic| first
  | ((with_reducible show G3.WE _ (.Name _ _) _ _ _); first | refine we_nm (by walk_at "as") (by walk_at "at") (by walk_at "vis") (by rfl) ?_ | refine we_tyn (by walk_at "as") (by rfl) (by walk_at "as") (by walk_at "as") ?_ | refine we_cls (C := He.ga _ _) (by walk_at "as") (by rfl) (by walk_at "as") ?_ | refine we_nmH (by walk_at "as") (by walk_at "at") (by walk_at "vis") (by rfl) ?_ | refine we_tynH (by walk_at "as") (by rfl) (by walk_at "as") (by walk_at "as") ?_ | refine we_clsH (C := He.ga _ _) (by walk_at "as") (by rfl) (by walk_at "as") ?_)
  | ((with_reducible show G3.WE _ (.Constant (.int _) _ _) _ _ _); refine we_int ?_)
  | ((with_reducible show G3.WE _ (.Subscript _ (.Slice _ _ (some _) _) _) _ _ _); refine we_rev ?_)
  | ((with_reducible show G3.WE _ (.Subscript _ (.Slice _ _ none _) _) _ _ _); refine we_slice ?_)
  | ((with_reducible show G3.WE _ (.Subscript _ _ _) _ _ _); refine we_ix ?_)
  | ((with_reducible show G3.WE _ (.BinOp _ _ _ _) _ _ _); refine we_op ?_)
  | ((with_reducible show G3.WE _ (.Call (.Name _ _) _ _ _) _ _ _); first
      | refine we_call (by walk_at "as") (by walk_at "as") (by decide) (by rfl) ?_
      | refine we_callB (by walk_at "as") (by rfl) (by walk_at "as") (by walk_at "as") ?_
      | refine we_callTy (by walk_at "as") (by rfl) (by walk_at "as") (by walk_at "as") ?_
      | refine we_callX (by walk_at "as") (by walk_at "as") (by walk_at "as") (by decide) (by rfl) (by walk_at "as") ?_
      | refine we_callBH (by walk_at "as") (by rfl) (by walk_at "as") (by walk_at "as") ?_)
  | ((with_reducible show G3.WE _ (.Attribute _ _ _) _ _ _); first | refine we_fld (by walk_at "as") ?_ | refine we_xfH (by walk_at "as") (by walk_at "as") (by walk_at "as") (by walk_at "as") ?_)
  | ((with_reducible show G3.WE _ (.Tuple _ _ _) _ _ _); refine we_tup ?_)
  | ((with_reducible show G3.WE _ (.List _ _) _ _ _); first | refine we_lstN ?_ | refine we_lst ?_)
  | ((with_reducible show G3.WE _ (.Compare _ [_] _ _) _ _ _); refine we_cmp ?_)
  | ((with_reducible show G3.WE _ (.Compare _ [_, _] _ _) _ _ _); refine we_chain ?_)
  | ((with_reducible show G3.WE _ (.UnaryOp .Not _ _) _ _ _); refine we_not ?_)
  | ((with_reducible show G3.WE _ (.UnaryOp _ _ _) _ _ _); refine we_un ?_)
  | ((with_reducible show G3.WE _ (.IfExp _ _ _ _) _ _ _); refine we_if ?_)
  | ((with_reducible show G3.WE _ (.Constant _ _ _) _ _ _); first | refine we_bl ?_ | refine we_non ?_ | refine we_str ?_)
  | ((with_reducible show G3.WE _ (.JoinedStr (_ :: _ :: _) _) _ _ _); refine we_joined ?_)
  | ((with_reducible show G3.WE _ (.FormattedValue _ _ _ _) _ _ _); refine we_fmt ?_)
  | ((with_reducible show G3.WE _ (.BoolOp _ [_] _) _ _ _); refine we_one ?_)
  | ((with_reducible show G3.WE _ (.BoolOp .And _ _) _ _ _); refine we_and ?_)
  | ((with_reducible show G3.WE _ (.BoolOp .Or _ _) _ _ _); refine we_or ?_))
local macro_rules | `(tactic| walk_at "t") => `(tactic| first
  | ((with_reducible show WT _ (.Compare _ [_] _ _) _ _ _); refine wt_cmp ?_)
  | ((with_reducible show WT _ (.Compare _ [_, _] _ _) _ _ _); refine wt_chain ?_)
  | ((with_reducible show WT _ (.UnaryOp .Not _ _) _ _ _); refine wt_not ?_)
  | ((with_reducible show WT _ (.BoolOp .And _ _) _ _ _); refine wt_w (ww_and ?_))
  | ((with_reducible show WT _ (.BoolOp .Or _ _) _ _ _); refine wt_w (ww_or ?_))
  | refine wt_truth ?_)
local macro_rules | `(tactic| walk_at "w") => `(tactic| first
  | ((with_reducible show WW _ (.BoolOp .And [_] _) _ _ _); refine ww_and1 ?_)
  | ((with_reducible show WW _ (.BoolOp .Or [_] _) _ _ _); refine ww_or1 ?_)
  | ((with_reducible show WW _ (.BoolOp .And _ _) _ _ _); refine ww_and ?_)
  | ((with_reducible show WW _ (.BoolOp .Or _ _) _ _ _); refine ww_or ?_))
local macro_rules | `(tactic| walk_at "st") => `(tactic| first
  | ((with_reducible show WS _ (.Assign [.Name _ _] (.ListComp _ _ _ _) _) _ _ _); fail)
  | ((with_reducible show WS _ (.Assign [.Name _ _] _ _) _ _ _); first | refine ws_set (by walk_at "as") (by walk_at "at") (by walk_at "loc") ?_ | refine ws_setH (by walk_at "as") (by walk_at "at") (by walk_at "loc") ?_)
  | ((with_reducible show WS _ (.Return (some _) _) _ _ _); refine ws_ret ?_)
  | ((with_reducible show WS _ (.If _ _ _ _) _ _ _); refine ws_if ?_)
  | ((with_reducible show WS _ (.Expr (.Call (.Attribute _ "append" _) _ _ _) _) _ _ _); refine ws_append ?_)
  | ((with_reducible show WS _ (.Expr (.Call (.Attribute _ "insert" _) _ _ _) _) _ _ _); refine ws_insert ?_)
  | ((with_reducible show WS _ (.Expr _ _) _ _ _); refine ws_expr ?_)
  | ((with_reducible show WS _ (.Assign [.Tuple _ _ _] (.Tuple _ _ _) _) _ _ _); first
      | refine ws_par2 (by walk_at "as") (by walk_at "at") (by walk_at "at") (by rfl) (by rfl) (by rfl) (by rfl) ?_
      | refine ws_asgT (by walk_at "as") (by rfl) ?_)
  | ((with_reducible show WS _ (.Raise (some _) none _) _ _ _); refine ws_raise (by walk_at "as") (by walk_at "as") ?_)
  | ((with_reducible show WS _ (.Assign [_] _ _) _ _ _); (fail_if_success (with_reducible show WS _ (.Assign [.Attribute _ _ _] _ _) _ _ _)); refine ws_asg ?_)
  | ((with_reducible show WS _ (.Return none _) _ _ _); refine ws_retN ?_)
  | ((with_reducible show WS _ (.Pass _) _ _ _); refine ws_pass ?_)
  | ((with_reducible show WS _ (.Break _) _ _ _); refine ws_break ?_)
  | ((with_reducible show WS _ (.Continue _) _ _ _); refine ws_continue ?_))
local macro_rules | `(tactic| walk_at "mul") => `(tactic| with_unfolding_all first
  | exact cml (by decide) (by decide)
  | exact cmr (by decide) (by decide)
  | exact cmw (by with_reducible assumption) (by with_reducible assumption) (by decide) (by decide) (by decide)
  | exact cml (by omega) (by omega)
  | exact cmr (by omega) (by omega))
local macro_rules | `(tactic| walk_at "o2") => `(tactic| with_reducible first
  | refine o2_add ?_
  | refine o2_sub ?_
  | refine o2_mul (by walk_at "mul") ?_
  | refine o2_lt ?_
  | refine o2_le ?_
  | refine o2_gt ?_
  | refine o2_ge ?_
  | refine o2_eqi ?_
  | refine o2_nei ?_
  | refine o2_eqb ?_
  | refine o2_neb ?_
  | refine o2_eqs ?_
  | refine o2_nes ?_
  | refine o2_isN ?_
  | refine o2_notN ?_)
local macro_rules | `(tactic| walk_at "x") => `(tactic| first
  | ((with_reducible show G3.WE _ _ _ _ _); walk_at "e")
  | ((with_reducible show WA _ _ _ _ _); first | refine wa_cons ?_ | refine wa_nil ?_)
  | ((with_reducible show WMk _ (.Call (.Name _ _) [] _ _) _ _ _); refine wmk_own0 (by walk_at "as") (by walk_at "as") (by decide) (by rfl) ?_)
  | ((with_reducible show WO _ _ _ _ _); first | (show G3.WE _ _ _ _ _))
  | ((with_reducible show WT _ _ _ _ _); walk_at "t")
  | ((with_reducible show G3.WJ _ _ _ _ _ _); first | refine wj_cons ?_ | refine wj_nil ?_)
  | ((with_reducible show G3.WK _ _ _ _ _); first | refine wk_cons ?_ | refine wk_nil ?_)
  | ((with_reducible show WW _ _ _ _ _); walk_at "w")
  | ((with_reducible show WS _ _ _ _ _); walk_at "st")
  | ((with_reducible show O2 _ _ _ _ _ _); walk_at "o2")
  | ((with_reducible show OI _ (.tup _) _ _ _); refine oi_tup rfl ?_)
  | ((with_reducible show OC _ _ _ _ _); with_reducible first | refine oc_abs ?_ | refine oc_int ?_ | refine oc_intb ?_ | refine oc_lenT ?_)
  | ((with_reducible show O1 _ _ _ _ _); refine o1_neg ?_)
  | ((with_reducible show BQ _ _ _); refine ⟨_, rfl, ?_⟩)
  | ((with_reducible show WG _ _ _ _ _ _); first | refine wg_name (by walk_at "as") (by walk_at "at") (by walk_at "loc") ?_ | refine wg_tup (by walk_at "as") ?_)
  | ((with_reducible show WGs _ _ _ _ _ _); first | refine wgs_cons (by walk_at "as") (by walk_at "at") (by walk_at "loc") ?_ | refine wgs_nil ?_))
local macro_rules | `(tactic| walk_at "s") => `(tactic| first
  | walk_at "x"
  | ((with_reducible show WSs _ _ _ _ _); first | refine wss_cons ?_ | refine wss_nil ?_))
def endsF (a b : Spt) (k : Bool) : Rt × Rt := if rcomp (pk a k) (pk b k) ≤ 0 then (pk a k, pk b k) else (pk b k, pk a k)
theorem endsF_bits {n : Nat} {a b : Spt} (ha : SB n a) (hb : SB n b) (k : Bool) : RB n (endsF a b k).1 ∧ RB n (endsF a b k).2 := by
  unfold endsF; split
  · exact ⟨ha.pk k, hb.pk k⟩
  · exact ⟨hb.pk k, ha.pk k⟩
theorem df_lbits {E : Ev} (hR : E.mg "range" = none) (D1 : E.df 1 "_law_comp" ["_law_one", "_law_two"] spComp) (D2 : E.df 2 "_law_dif" ["_law_one", "_law_two"] (spBin rdif)) (D3 : E.df 2 "_law_sum" ["_law_one", "_law_two"] (spBin rsum)) (D4 : E.df 4 "_law_clip" ["_law_one", "_law_two", "_law_low", "_law_high"] spClipG)
    (T : Tx E "_law_bits" (top 50) ["_law_one", "_law_two", "_law_a", "_law_b", "_law_room"]) : E.df 5 "_law_bits" ["_law_one", "_law_two", "_law_a", "_law_b", "_law_room"] spBits := by
  refine T.df ["_law_one", "_law_two", "_law_a", "_law_b", "_law_room", "_law_low", "_law_high", "_law_k", "_law_ends"] ⟨rfl, rfl, rfl, by decide +kernel, rfl, by decide +kernel, by decide +kernel⟩ (fun ws M Q ⟨_, _, _, _, _, e, _⟩ => by rw [e]; rfl) fun X B ws M Q ⟨a, b, c, d, r, e, ha, hb, hc, hd, hr, q⟩ => ?_
  subst e
  show WSs X _ [some (vsp a), some (vsp b), some (vsp c), some (vsp d), some (vr r), none, none, none, none] M _
  refine wss_cons ?_
  walk_at "st"
  repeat (walk_at "x")
  refine ⟨by show 0 ≤ sizeLine; decide, fun pl npl => ?_⟩
  repeat (walk_at "x")
  refine ⟨by show 0 ≤ sizeLine; decide, fun ph nph => ?_⟩
  have l1 := LeM.new (o := .lst []) npl
  have l2 := l1.trans (LeM.new (o := .lst []) nph)
  have PH : ph ≠ pl := fun z => by subst z; rw [updM_same] at nph; cases nph
  have nph0 : M ph = none := by rw [updM_ne PH] at nph; exact nph
  have hl : (updM (updM M pl (.lst [])) ph (.lst [])) pl = some (.lst []) := by rw [updM_ne PH.symm]; exact updM_same
  have hh : (updM (updM M pl (.lst [])) ph (.lst [])) ph = some (.lst []) := updM_same
  generalize updM (updM M pl (.lst [])) ph (.lst []) = M0 at l2 hl hh
  clear l1 nph
  repeat (walk_at "x")
  refine ⟨_, _, rfl, ?_⟩
  repeat (walk_at "s")
  refine ws_forRange1 B rfl hR ?_
  repeat (walk_at "s")
  generalize hL : (fun k => rdif (endsF c d k).1 r) = L
  generalize hU : (fun k => rsum (endsF c d k).2 r) = U
  refine ⟨_, rfl, ⟨by omega, by omega⟩, fun i σ M' => LeM M M' ∧ M' pl = some (.lst ([vr (L false), vr (L true)].take i)) ∧ M' ph = some (.lst ([vr (U false), vr (U true)].take i)) ∧ ∃ (x7 x8 : Option VV), σ = [some (vsp a), some (vsp b), some (vsp c), some (vsp d), some (vr r), some (.ref pl), some (.ref ph), x7, x8], ⟨l2, hl, hh, _, _, rfl⟩, fun _ _ _ _ _ => trivial, ?_, ?_⟩
  · rintro i u σ M' hi rfl ⟨le, hl, hh, x7, x8, rfl⟩
    obtain ⟨k, eu, e1, e2, i1⟩ : ∃ k : Bool, (i : Int) = vB k ∧ [vr (L false), vr (L true)].take (i + 1) = [vr (L false), vr (L true)].take i ++ [vr (L k)] ∧ [vr (U false), vr (U true)].take (i + 1) = [vr (U false), vr (U true)].take i ++ [vr (U k)] ∧ i ≤ 1 := by
      have hi2 : i = 0 ∨ i = 1 := by
        have : i < 2 := hi
        omega
      rcases hi2 with rfl | rfl
      · exact ⟨false, rfl, rfl, rfl, by omega⟩
      · exact ⟨true, rfl, rfl, rfl, by omega⟩
    have lz : ∀ x y : VV, ([x, y].take i).length < sizeLine := fun x y => Nat.lt_of_le_of_lt (by rw [List.length_take]; exact Nat.min_le_right _ _) (show 2 < sizeLine by decide)
    obtain ⟨b1, b2⟩ := endsF_bits hc hd k
    rw [eu]
    walk_at "s"
    refine wss_cut (fun σ M2 => ∃ p, M' p = none ∧ LeM M' M2 ∧ M2 p = some (.lst [vr (endsF c d k).1, vr (endsF c d k).2]) ∧ σ = [some (vsp a), some (vsp b), some (vsp c), some (vsp d), some (vr r), some (.ref pl), some (.ref ph), some (.int (vB k)), some (.ref p)]) ?_ ?_
    · repeat (walk_at "s")
      refine oi_tup (atI_pk k c) ?_
      repeat (walk_at "s")
      refine oi_tup (atI_pk k d) ?_
      repeat (walk_at "s")
      refine ⟨_, _, rfl, (hc.pk k).big, (hd.pk k).big, ?_⟩
      repeat (walk_at "s")
      unfold endsF
      refine ite_dec (fun c1 => ?_) (fun c1 => ?_)
      · rw [if_pos c1]
        repeat (walk_at "s")
        refine oi_tup (atI_pk k c) ?_
        repeat (walk_at "s")
        refine oi_tup (atI_pk k d) ?_
        repeat (walk_at "s")
        refine ⟨by show 2 ≤ sizeLine; decide, fun p np => ?_⟩
        exact ⟨p, np, LeM.new np, updM_same, rfl⟩
      · rw [if_neg c1]
        repeat (walk_at "s")
        refine oi_tup (atI_pk k d) ?_
        repeat (walk_at "s")
        refine oi_tup (atI_pk k c) ?_
        repeat (walk_at "s")
        refine ⟨by show 2 ≤ sizeLine; decide, fun p np => ?_⟩
        exact ⟨p, np, LeM.new np, updM_same, rfl⟩
    rintro σ M2 ⟨p, np, le2, hp, rfl⟩
    have hl2 := le2 _ _ hl
    have hh2 := le2 _ _ hh
    have le3 := le.trans le2
    have pl1 := neM hl np
    have ph1 := neM hh np
    repeat (walk_at "s")
    refine ⟨pl, _, rfl, hl2, ?_⟩
    repeat (walk_at "s")
    refine oi_lst (.ref hp) rfl ?_
    repeat (walk_at "s")
    refine ⟨_, _, rfl, b1.big, hr.big, ?_⟩
    refine ⟨_, hl2, lz _ _, ?_⟩
    have hp3 : updM M2 pl (.lst ([vr (L false), vr (L true)].take i ++ [vr (rdif (endsF c d k).1 r)])) p = some (.lst [vr (endsF c d k).1, vr (endsF c d k).2]) := by rw [updM_ne pl1.symm]; exact hp
    have hh3 : updM M2 pl (.lst ([vr (L false), vr (L true)].take i ++ [vr (rdif (endsF c d k).1 r)])) ph = some (.lst ([vr (U false), vr (U true)].take i)) := by rw [updM_ne PH]; exact hh2
    have hl3 : updM M2 pl (.lst ([vr (L false), vr (L true)].take i ++ [vr (rdif (endsF c d k).1 r)])) pl = some (.lst ([vr (L false), vr (L true)].take i ++ [vr (rdif (endsF c d k).1 r)])) := updM_same
    have le4 : LeM M (updM M2 pl (.lst ([vr (L false), vr (L true)].take i ++ [vr (rdif (endsF c d k).1 r)]))) := le3.put npl
    generalize updM M2 pl (.lst ([vr (L false), vr (L true)].take i ++ [vr (rdif (endsF c d k).1 r)])) = M3 at hp3 hh3 hl3 le4
    repeat (walk_at "s")
    refine ⟨ph, _, rfl, hh3, ?_⟩
    repeat (walk_at "s")
    refine oi_lst (.ref hp3) rfl ?_
    repeat (walk_at "s")
    refine ⟨_, _, rfl, b2.big, hr.big, ?_⟩
    refine ⟨_, hh3, lz _ _, ?_⟩
    repeat (walk_at "s")
    refine ⟨le4.put nph0, ?_, ?_, _, _, rfl⟩
    · rw [updM_ne PH.symm, hl3, e1, ← hL]
    · rw [updM_same, e2, ← hU]
  · rintro σ M' ⟨le, hl, hh, x7, x8, rfl⟩
    have bL : ∀ k, RB 480 (L k) := fun k => by rw [← hL]; exact ((endsF_bits hc hd k).1.dif hr).mono (by decide)
    have bU : ∀ k, RB 480 (U k) := fun k => by rw [← hU]; exact ((endsF_bits hc hd k).2.sum hr).mono (by decide)
    have sl : SB 480 (L false, L true) := ⟨bL _, bL _⟩
    have su : SB 480 (U false, U true) := ⟨bU _, bU _⟩
    have hl : M' pl = some (.lst [vr (L false), vr (L true)]) := hl
    have hh : M' ph = some (.lst [vr (U false), vr (U true)]) := hh
    have fx := (hb.x.dif ha.x).mono (m := 73) (by decide)
    have fy := (hb.y.dif ha.y).mono (m := 73) (by decide)
    have b0 : ∀ r, some (((0 : Int), (1 : Int)), ((1 : Int), (1 : Int))) = some r → RB 590 r.1 ∧ RB 590 r.2 := fun r h => by cases h; exact ⟨RB.zero.mono (by decide), ⟨Nat.one_lt_two_pow (by decide), Nat.one_lt_two_pow (by decide), by decide⟩⟩
    have b1 := spanG_bits (N := 590) b0 ha.x fx sl.x su.x (Nat.le_refl _) (by decide)
    have b2 := spanG_bits (N := 590) b1 ha.y fy sl.y su.y (Nat.le_refl _) (by decide)
    repeat (walk_at "s")
    refine ⟨.ref pl, .ref ph, a, b, (L false, L true), (U false, U true), 480, rfl, .inr (.ref hl), .inr (.ref hh), ha, hb, sl, su, by decide, ?_⟩
    refine ⟨M', LeM.refl, q _ M' le fun z ez => ?_⟩
    obtain ⟨z1, z2, z3, z4, z5⟩ := clip_share ha.sp hb.sp sl.sp su.sp ez
    obtain ⟨y1, y2⟩ := b2 z ez
    exact ⟨⟨y1, z3, by grind⟩, ⟨y2, by grind, z5⟩⟩
end G3

set_option Elab.async false
set_option linter.all false
set_option maxRecDepth 100000
set_option maxHeartbeats 4000000
set_option pp.maxSteps 1000
namespace G3
open PySem PySem.Spec L2
local macro_rules | `(tactic| walk_at "at") => `(tactic| with_reducible (repeat (first | exact At.here | apply At.there)))
local macro_rules | `(tactic| walk_at "vis") => `(tactic| first | exact Or.inl rfl | exact Or.inr (Or.inl rfl) | exact Or.inr (Or.inr rfl))
local macro_rules | `(tactic| walk_at "loc") => `(tactic| first | exact Or.inl rfl | exact Or.inr rfl)
local macro_rules | `(tactic| walk_at "as") => `(tactic| with_reducible assumption)
local macro_rules | `(tactic| walk_at "e") => `(tactic| first
  | ((with_reducible show G3.WE _ (.Name _ _) _ _ _); first | refine we_nm (by walk_at "as") (by walk_at "at") (by walk_at "vis") (by rfl) ?_ | refine we_tyn (by walk_at "as") (by rfl) (by walk_at "as") (by walk_at "as") ?_ | refine we_cls (C := He.ga _ _) (by walk_at "as") (by rfl) (by walk_at "as") ?_ | refine we_nmH (by walk_at "as") (by walk_at "at") (by walk_at "vis") (by rfl) ?_ | refine we_tynH (by walk_at "as") (by rfl) (by walk_at "as") (by walk_at "as") ?_ | refine we_clsH (C := He.ga _ _) (by walk_at "as") (by rfl) (by walk_at "as") ?_)
  | ((with_reducible show G3.WE _ (.Constant (.int _) _ _) _ _ _); refine we_int ?_)
  | ((with_reducible show G3.WE _ (.Subscript _ (.Slice _ _ (some _) _) _) _ _ _); refine we_rev ?_)
  | ((with_reducible show G3.WE _ (.Subscript _ (.Slice _ _ none _) _) _ _ _); refine we_slice ?_)
  | ((with_reducible show G3.WE _ (.Subscript _ _ _) _ _ _); refine we_ix ?_)
  | ((with_reducible show G3.WE _ (.BinOp _ _ _ _) _ _ _); refine we_op ?_)
  | ((with_reducible show G3.WE _ (.Call (.Name _ _) _ _ _) _ _ _); first
      | refine we_call (by walk_at "as") (by walk_at "as") (by decide) (by rfl) ?_
      | refine we_callB (by walk_at "as") (by rfl) (by walk_at "as") (by walk_at "as") ?_
      | refine we_callTy (by walk_at "as") (by rfl) (by walk_at "as") (by walk_at "as") ?_
      | refine we_callX (by walk_at "as") (by walk_at "as") (by walk_at "as") (by decide) (by rfl) (by walk_at "as") ?_
      | refine we_callBH (by walk_at "as") (by rfl) (by walk_at "as") (by walk_at "as") ?_)
  | ((with_reducible show G3.WE _ (.Attribute _ _ _) _ _ _); first | refine we_fld (by walk_at "as") ?_ | refine we_xfH (by walk_at "as") (by walk_at "as") (by walk_at "as") (by walk_at "as") ?_)
  | ((with_reducible show G3.WE _ (.Tuple _ _ _) _ _ _); refine we_tup ?_)
  | ((with_reducible show G3.WE _ (.List _ _) _ _ _); first | refine we_lstN ?_ | refine we_lst ?_)
  | ((with_reducible show G3.WE _ (.Compare _ [_] _ _) _ _ _); refine we_cmp ?_)
  | ((with_reducible show G3.WE _ (.Compare _ [_, _] _ _) _ _ _); refine we_chain ?_)
  | ((with_reducible show G3.WE _ (.UnaryOp .Not _ _) _ _ _); refine we_not ?_)
  | ((with_reducible show G3.WE _ (.UnaryOp _ _ _) _ _ _); refine we_un ?_)
  | ((with_reducible show G3.WE _ (.IfExp _ _ _ _) _ _ _); refine we_if ?_)
  | ((with_reducible show G3.WE _ (.Constant _ _ _) _ _ _); first | refine we_bl ?_ | refine we_non ?_ | refine we_str ?_)
  | ((with_reducible show G3.WE _ (.JoinedStr (_ :: _ :: _) _) _ _ _); refine we_joined ?_)
  | ((with_reducible show G3.WE _ (.FormattedValue _ _ _ _) _ _ _); refine we_fmt ?_)
  | ((with_reducible show G3.WE _ (.BoolOp _ [_] _) _ _ _); refine we_one ?_)
  | ((with_reducible show G3.WE _ (.BoolOp .And _ _) _ _ _); refine we_and ?_)
  | ((with_reducible show G3.WE _ (.BoolOp .Or _ _) _ _ _); refine we_or ?_))
local macro_rules | `(tactic| walk_at "t") => `(tactic| first
  | ((with_reducible show WT _ (.Compare _ [_] _ _) _ _ _); refine wt_cmp ?_)
  | ((with_reducible show WT _ (.Compare _ [_, _] _ _) _ _ _); refine wt_chain ?_)
  | ((with_reducible show WT _ (.UnaryOp .Not _ _) _ _ _); refine wt_not ?_)
  | ((with_reducible show WT _ (.BoolOp .And _ _) _ _ _); refine wt_w (ww_and ?_))
  | ((with_reducible show WT _ (.BoolOp .Or _ _) _ _ _); refine wt_w (ww_or ?_))
  | refine wt_truth ?_)
local macro_rules | `(tactic| walk_at "w") => `(tactic| first
  | ((with_reducible show WW _ (.BoolOp .And [_] _) _ _ _); refine ww_and1 ?_)
  | ((with_reducible show WW _ (.BoolOp .Or [_] _) _ _ _); refine ww_or1 ?_)
  | ((with_reducible show WW _ (.BoolOp .And _ _) _ _ _); refine ww_and ?_)
  | ((with_reducible show WW _ (.BoolOp .Or _ _) _ _ _); refine ww_or ?_))
local macro_rules | `(tactic| walk_at "st") => `(tactic| first
  | ((with_reducible show WS _ (.Assign [.Name _ _] (.ListComp _ _ _ _) _) _ _ _); fail)
  | ((with_reducible show WS _ (.Assign [.Name _ _] _ _) _ _ _); first | refine ws_set (by walk_at "as") (by walk_at "at") (by walk_at "loc") ?_ | refine ws_setH (by walk_at "as") (by walk_at "at") (by walk_at "loc") ?_)
  | ((with_reducible show WS _ (.Return (some _) _) _ _ _); refine ws_ret ?_)
  | ((with_reducible show WS _ (.If _ _ _ _) _ _ _); refine ws_if ?_)
  | ((with_reducible show WS _ (.Expr (.Call (.Attribute _ "append" _) _ _ _) _) _ _ _); refine ws_append ?_)
  | ((with_reducible show WS _ (.Expr (.Call (.Attribute _ "insert" _) _ _ _) _) _ _ _); refine ws_insert ?_)
  | ((with_reducible show WS _ (.Expr _ _) _ _ _); refine ws_expr ?_)
  | ((with_reducible show WS _ (.Assign [.Tuple _ _ _] (.Tuple _ _ _) _) _ _ _); first
      | refine ws_par2 (by walk_at "as") (by walk_at "at") (by walk_at "at") (by rfl) (by rfl) (by rfl) (by rfl) ?_
      | refine ws_asgT (by walk_at "as") (by rfl) ?_)
  | ((with_reducible show WS _ (.Raise (some _) none _) _ _ _); refine ws_raise (by walk_at "as") (by walk_at "as") ?_)
  | ((with_reducible show WS _ (.Assign [_] _ _) _ _ _); (fail_if_success (with_reducible show WS _ (.Assign [.Attribute _ _ _] _ _) _ _ _)); refine ws_asg ?_)
  | ((with_reducible show WS _ (.Return none _) _ _ _); refine ws_retN ?_)
  | ((with_reducible show WS _ (.Pass _) _ _ _); refine ws_pass ?_)
  | ((with_reducible show WS _ (.Break _) _ _ _); refine ws_break ?_)
  | ((with_reducible show WS _ (.Continue _) _ _ _); refine ws_continue ?_))
local macro_rules | `(tactic| walk_at "mul") => `(tactic| with_unfolding_all first
  | exact cml (by decide) (by decide)
  | exact cmr (by decide) (by decide)
  | exact cmw (by with_reducible assumption) (by with_reducible assumption) (by decide) (by decide) (by decide)
  | exact cml (by omega) (by omega)
  | exact cmr (by omega) (by omega))
local macro_rules | `(tactic| walk_at "o2") => `(tactic| with_reducible first
  | refine o2_add ?_
  | refine o2_sub ?_
  | refine o2_mul (by walk_at "mul") ?_
  | refine o2_lt ?_
  | refine o2_le ?_
  | refine o2_gt ?_
  | refine o2_ge ?_
  | refine o2_eqi ?_
  | refine o2_nei ?_
  | refine o2_eqb ?_
  | refine o2_neb ?_
  | refine o2_eqs ?_
  | refine o2_nes ?_
  | refine o2_isN ?_
  | refine o2_notN ?_)
local macro_rules | `(tactic| walk_at "x") => `(tactic| first
  | ((with_reducible show G3.WE _ _ _ _ _); walk_at "e")
  | ((with_reducible show WA _ _ _ _ _); first | refine wa_cons ?_ | refine wa_nil ?_)
  | ((with_reducible show WMk _ (.Call (.Name _ _) [] _ _) _ _ _); refine wmk_own0 (by walk_at "as") (by walk_at "as") (by decide) (by rfl) ?_)
  | ((with_reducible show WO _ _ _ _ _); first | (show G3.WE _ _ _ _ _))
  | ((with_reducible show WT _ _ _ _ _); walk_at "t")
  | ((with_reducible show G3.WJ _ _ _ _ _ _); first | refine wj_cons ?_ | refine wj_nil ?_)
  | ((with_reducible show G3.WK _ _ _ _ _); first | refine wk_cons ?_ | refine wk_nil ?_)
  | ((with_reducible show WW _ _ _ _ _); walk_at "w")
  | ((with_reducible show WS _ _ _ _ _); walk_at "st")
  | ((with_reducible show O2 _ _ _ _ _ _); walk_at "o2")
  | ((with_reducible show OI _ (.tup _) _ _ _); refine oi_tup rfl ?_)
  | ((with_reducible show OC _ _ _ _ _); with_reducible first | refine oc_abs ?_ | refine oc_int ?_ | refine oc_intb ?_ | refine oc_lenT ?_)
  | ((with_reducible show O1 _ _ _ _ _); refine o1_neg ?_)
  | ((with_reducible show BQ _ _ _); refine ⟨_, rfl, ?_⟩)
  | ((with_reducible show WG _ _ _ _ _ _); first | refine wg_name (by walk_at "as") (by walk_at "at") (by walk_at "loc") ?_ | refine wg_tup (by walk_at "as") ?_)
  | ((with_reducible show WGs _ _ _ _ _ _); first | refine wgs_cons (by walk_at "as") (by walk_at "at") (by walk_at "loc") ?_ | refine wgs_nil ?_))
local macro_rules | `(tactic| walk_at "s") => `(tactic| first
  | walk_at "x"
  | ((with_reducible show WSs _ _ _ _ _); first | refine wss_cons ?_ | refine wss_nil ?_))
/-- all but what stands at p is kept -/
def LeX (p : Addr) (M M' : Mp) : Prop := ∀ a o, a ≠ p → M a = some o → M' a = some o
theorem le_none {p : Addr} {M M' : Mp} (l : LeM M M') (h : M' p = none) : M p = none := by
  cases e : M p with
  | none => rfl
  | some o => rw [l p o e] at h; cases h
theorem LeX.refl {p : Addr} {M : Mp} : LeX p M M := fun _ _ _ h => h
theorem LeX.le {p : Addr} {M M1 M2 : Mp} (h : LeX p M M1) (l : LeM M1 M2) : LeX p M M2 := fun a o n e => l a o (h a o n e)
theorem LeX.put {p : Addr} {M M1 : Mp} {o : MO} (h : LeX p M M1) : LeX p M (updM M1 p o) := fun a u n e => by rw [updM_ne n]; exact h a u n e
theorem LeX.fin {p : Addr} {M M0 M1 : Mp} (h : LeX p M M1) (l : LeM M0 M) (n : M0 p = none) : LeM M0 M1 := fun a o e => h a o (neM e n) (l a o e)
theorem df_spots_of {E : Ev} (hR : E.mg "range" = none) (hL : E.mg "len" = none) (hMx : E.mg "max" = none) (hLi : E.mg "list" = none) (D1 : E.df 1 "_law_draw" ["_law_bag_here", "_law_many"] spDraw) (D2 : E.df 1 "_law_rat" ["_law_over", "_law_under"] spRat) (D3 : E.df 2 "_law_sum" ["_law_one", "_law_two"] (spBin rsum)) (D4 : E.df 5 "_law_bits" ["_law_one", "_law_two", "_law_a", "_law_b", "_law_room"] spBits) (D5 : E.df 3 "_law_on" ["_law_one", "_law_two", "_law_part"] spOn)
    (T : Tx E "_law_spots_of" (top 51) ["_law_bag_here", "_law_ones", "_law_others", "_law_room"]) : E.df 6 "_law_spots_of" ["_law_bag_here", "_law_ones", "_law_others", "_law_room"] spSpotsOf := by
  refine T.df ["_law_bag_here", "_law_ones", "_law_others", "_law_room", "_law_found", "_law_k", "_law_one", "_law_two", "_law_parts", "_law_here", "_law_bits_here", "_law_part", "_law_more", "_law_near"] ⟨rfl, rfl, rfl, by decide +kernel, rfl, by decide +kernel, by decide +kernel⟩ (fun ws M Q ⟨_, _, _, _, _, _, e, _⟩ => by rw [e]; rfl) fun X B ws M Q ⟨b, w, u, ones, others, r, e, hb, hw, hu, hne, l1, l2, b1, b2, hr, q⟩ => ?_
  subst e
  have bL := bb_len
  have bMx := bb_max
  have bLi := bb_list
  have lpos : 0 < ones.length := List.length_pos_iff.mpr hne
  have g0 : (ones.map vsp)[0]? = some (vsp (ones.headD ((0, 1), (0, 1)))) := by
    cases ones with
    | nil => exact absurd rfl hne
    | cons a r => rfl
  have hd0 : ones.headD ((0, 1), (0, 1)) ∈ ones := by
    cases ones with
    | nil => exact absurd rfl hne
    | cons a r => simp
  show WSs X _ [some (.ref b), some (w), some (u), some (vr r), none, none, none, none, none, none, none, none, none, none] M _
  repeat (walk_at "s")
  refine oi_lst hw (atI_nat (j := 0) g0) ?_
  repeat (walk_at "s")
  refine ⟨by show 1 ≤ sizeLine; decide, fun F nF => ?_⟩
  have le0 := LeM.new (o := .lst [vsp (ones.headD ((0, 1), (0, 1)))]) nF
  have hF0 : updM M F (.lst [vsp (ones.headD ((0, 1), (0, 1)))]) F = some (.lst ([ones.headD ((0, 1), (0, 1))].map vsp)) := updM_same
  generalize updM M F (.lst [vsp (ones.headD ((0, 1), (0, 1)))]) = M0 at le0 hF0
  repeat (walk_at "s")
  refine ws_forRange2 B rfl hR ?_
  repeat (walk_at "s")
  refine oc_len (hw.le le0) ?_
  rw [List.length_map]
  repeat (walk_at "s")
  refine ⟨_, _, rfl, ⟨by omega, by omega, by omega, by omega⟩, fun i σ M' => ∃ (F : Addr) (l : List Spt), M F = none ∧ LeM M M' ∧ M' F = some (.lst (l.map vsp)) ∧ l.length ≤ 1 + 45 * i ∧ (∀ s ∈ l, SB 711 s ∧ OnRow ones s) ∧ ∃ (x5 x6 x7 x8 x9 x10 x11 x12 x13 : Option VV), σ = [some (.ref b), some (w), some (u), some (vr r), some (.ref F), x5, x6, x7, x8, x9, x10, x11, x12, x13],
    ⟨F, _, nF, le0, hF0, by simp, fun s hs => (by rw [List.mem_singleton] at hs; subst hs; exact ⟨(b1 _ hd0).mono (by decide), .inl rfl⟩), _, _, _, _, _, _, _, _, _, rfl⟩, fun _ _ _ _ _ => trivial, ?_, ?_⟩
  · rintro i v σ M' hi rfl ⟨F, l, nF, le1, hF, fl, fb, x5, x6, x7, x8, x9, x10, x11, x12, x13, rfl⟩
    have hi1 : i + 1 < ones.length := by omega
    have ge : (ones.map vsp)[i]? = some (vsp ones[i]) := by rw [List.getElem?_map, List.getElem?_eq_getElem (by omega)]; rfl
    have ge1 : (ones.map vsp)[i + 1]? = some (vsp ones[i + 1]) := by rw [List.getElem?_map, List.getElem?_eq_getElem hi1]; rfl
    have oa := b1 _ (List.getElem_mem (show i < ones.length by omega))
    have ob := b1 _ (List.getElem_mem hi1)
    have hpc := pieces_next hi1
    have e1 : (1 : Int) + (i : Int) - 1 = (i : Nat) := by omega
    have e2 : (1 : Int) + (i : Int) = ((i + 1 : Nat) : Int) := by omega
    generalize ones[i] = a at ge oa hpc
    generalize ones[i + 1] = c at ge1 ob hpc
    walk_at "s"
    repeat (walk_at "s")
    rw [e1]
    refine oi_lst (hw.le le1) (atI_nat ge) ?_
    repeat (walk_at "s")
    rw [e2]
    refine oi_lst (hw.le le1) (atI_nat ge1) ?_
    repeat (walk_at "s")
    refine ⟨by show 2 ≤ sizeLine; decide, ?_⟩
    repeat (walk_at "s")
    refine ⟨by show 2 ≤ sizeLine; decide, ?_⟩
    repeat (walk_at "s")
    refine ⟨by show 2 ≤ sizeLine; decide, ?_⟩
    repeat (walk_at "s")
    refine ⟨by show 2 ≤ sizeLine; decide, ?_⟩
    repeat (walk_at "s")
    refine ⟨by show 2 ≤ sizeLine; decide, ?_⟩
    repeat (walk_at "s")
    refine ⟨b, 100, rfl, le1 _ _ hb, by decide, by decide, fun d d0 d1 => ?_⟩
    repeat (walk_at "s")
    refine ⟨d, 99, rfl, by decide, Nat.lt_of_lt_of_le (show (99 : Int).natAbs < 2 ^ 7 by decide) (Nat.pow_le_pow_right (by decide) (by decide)), ?_⟩
    repeat (walk_at "s")
    have rd : Sh 590 (nrm d 99) := by
      have v : VB 1 99 (nrm d 99) := vb_nrm (by decide) (by decide) (by show d.natAbs ≤ 1 * 99; omega)
      obtain ⟨g, g0, y1, y2, yp, _⟩ := nrm_is d 99 (by decide)
      have gp : 0 < g := by
        rcases Int.lt_or_le 0 g with z | z
        · exact z
        · exfalso
          have := Int.mul_nonneg_of_nonpos_of_nonpos (a := -(nrm d 99).2) (b := g) (by omega) z
          rw [Int.neg_mul] at this
          omega
      refine sh_of (v.rb (n := 590) (Nat.lt_of_lt_of_le (show 1 * 99 < 2 ^ 7 by decide) (Nat.pow_le_pow_right (by decide) (by decide))) (Nat.lt_of_lt_of_le (show 99 < 2 ^ 7 by decide) (Nat.pow_le_pow_right (by decide) (by decide)))) ?_ ?_
      · rcases Int.lt_or_le (nrm d 99).1 0 with z | z
        · exfalso
          have := Int.mul_neg_of_neg_of_pos z gp
          omega
        · exact z
      · have := v.val
        have h0 : 0 ≤ (nrm d 99).1 := by
          rcases Int.lt_or_le (nrm d 99).1 0 with z | z
          · exfalso
            have := Int.mul_neg_of_neg_of_pos z gp
            omega
          · exact z
        omega
    refine ⟨by show 5 ≤ sizeLine; decide, fun P nP => ?_⟩
    have hP : updM M' P (.lst [vr (1, 1), vr (1, 2), vr (1, 3), vr (2, 3), vr (nrm d 99)]) P = some (.lst (([(1, 1), (1, 2), (1, 3), (2, 3), nrm d 99] : List Rt).map vr)) := updM_same
    have lp := LeM.new (o := .lst [vr (1, 1), vr (1, 2), vr (1, 3), vr (2, 3), vr (nrm d 99)]) nP
    generalize updM M' P (.lst [vr (1, 1), vr (1, 2), vr (1, 3), vr (2, 3), vr (nrm d 99)]) = M1 at hP lp
    have z590 : ∀ x y : Int, 0 ≤ x → x ≤ y → 0 < y → y < 4 → Sh 590 (x, y) := fun x y h1 h2 h3 h4 => sh_of ⟨Nat.lt_of_lt_of_le (show x.natAbs < 2 ^ 2 by omega) (Nat.pow_le_pow_right (by decide) (by decide)), Nat.lt_of_lt_of_le (show y.natAbs < 2 ^ 2 by omega) (Nat.pow_le_pow_right (by decide) (by decide)), h3⟩ h1 h2
    have pb : ∀ p ∈ ([(1, 1), (1, 2), (1, 3), (2, 3), nrm d 99] : List Rt), Sh 590 p := fun p hp => by
      simp only [List.mem_cons, List.not_mem_nil, or_false] at hp
      rcases hp with rfl | rfl | rfl | rfl | rfl
      · exact z590 _ _ (by decide) (by decide) (by decide) (by decide)
      · exact z590 _ _ (by decide) (by decide) (by decide) (by decide)
      · exact z590 _ _ (by decide) (by decide) (by decide) (by decide)
      · exact z590 _ _ (by decide) (by decide) (by decide) (by decide)
      · exact rd
    have pl5 : ([(1, 1), (1, 2), (1, 3), (2, 3), nrm d 99] : List Rt).length = 5 := rfl
    generalize ([(1, 1), (1, 2), (1, 3), (2, 3), nrm d 99] : List Rt) = ps0 at hP pb pl5
    clear rd z590 d0 d1
    refine wss_cut (fun σ M2 => ∃ (P : Addr) (ps : List Rt), LeM M1 M2 ∧ M2 P = some (.lst (ps.map vr)) ∧ M' P = none ∧ ps.length ≤ 15 ∧ (∀ p ∈ ps, Sh 590 p) ∧ ∃ (x9 x10 x11 x12 x13 : Option VV), σ = [some (.ref b), some (w), some (u), some (vr r), some (.ref F), some (.int ((i + 1 : Nat) : Int)), some (vsp a), some (vsp c), some (.ref P), x9, x10, x11, x12, x13]) ?_ ?_
    · refine ws_forRange1 B rfl hR ?_
      repeat (walk_at "s")
      refine oc_len (hu.le (le1.trans lp)) ?_
      rw [List.length_map]
      repeat (walk_at "s")
      refine ⟨_, rfl, ⟨by omega, by omega⟩, fun j σ M2 => ∃ (P : Addr) (ps : List Rt), LeM M1 M2 ∧ M2 P = some (.lst (ps.map vr)) ∧ M' P = none ∧ ps.length ≤ 5 + 2 * j ∧ (∀ p ∈ ps, Sh 590 p) ∧ ∃ (x9 x10 x11 x12 x13 : Option VV), σ = [some (.ref b), some (w), some (u), some (vr r), some (.ref F), some (.int ((i + 1 : Nat) : Int)), some (vsp a), some (vsp c), some (.ref P), x9, x10, x11, x12, x13],
        ⟨P, ps0, LeM.refl, hP, nP, by omega, pb, _, _, _, _, _, rfl⟩, fun _ _ _ _ _ => trivial, ?_, ?_⟩
      · rintro j v σ M2 hj rfl ⟨P, ps, le2, hP, nP, pl, pb, x9, x10, x11, x12, x13, rfl⟩
        have hj2 : j < others.length := by omega
        have hu2 := hu.le (le1.trans (lp.trans le2))
        have h0 : (others.map vsp)[j]? = some (vsp others[j]) := by rw [List.getElem?_map, List.getElem?_eq_getElem hj2]; rfl
        have h1 : (others.map vsp)[j - 1]? = some (vsp others[j - 1]) := by rw [List.getElem?_map, List.getElem?_eq_getElem (by omega)]; rfl
        have c0 := b2 _ (List.getElem_mem hj2)
        have c1 := b2 _ (List.getElem_mem (show j - 1 < others.length by omega))
        generalize others[j] = s0 at h0 c0
        generalize others[j - 1] = s1 at h1 c1
        walk_at "s"
        repeat (walk_at "s")
        refine oc_max2 B.calm ?_
        have em : (if (j : Int) - 1 > 0 then (j : Int) - 1 else 0) = ((j - 1 : Nat) : Int) := by split <;> omega
        rw [em]
        refine oi_lst hu2 (atI_nat h1) ?_
        repeat (walk_at "s")
        refine oi_lst hu2 (atI_nat h0) ?_
        repeat (walk_at "s")
        refine ⟨a, c, s1, s0, r, rfl, oa, ob, c1, c0, hr, fun o M3 l3 ho => ?_⟩
        repeat (walk_at "s")
        cases o with
        | none =>
          refine iteF ?_
          repeat (walk_at "s")
          exact ⟨P, ps, le2.trans l3, l3 _ _ hP, nP, by omega, pb, _, _, _, _, _, rfl⟩
        | some z =>
          obtain ⟨z1, z2⟩ := ho z rfl
          refine iteT ?_
          repeat (walk_at "s")
          obtain ⟨y1, y2⟩ := z
          refine oi_tup (w := vr y1) rfl ?_
          repeat (walk_at "s")
          refine oi_tup (w := vr y2) rfl ?_
          repeat (walk_at "s")
          refine ⟨by show 2 ≤ sizeLine; decide, fun g ng => ?_⟩
          have lg := LeM.new (o := .lst [vr y1, vr y2]) ng
          have hg : updM M3 g (.lst [vr y1, vr y2]) g = some (.lst (([y1, y2] : List Rt).map vr)) := updM_same
          generalize updM M3 g (.lst [vr y1, vr y2]) = M4 at lg hg
          refine o2_cat (lg _ _ (l3 _ _ hP)) hg (by rw [List.length_map, List.length_map]; exact Nat.le_trans (show ps.length + 2 ≤ 1000 by omega) (by decide)) ?_
          intro P2 nP2
          have l5 := LeM.new (o := .lst (ps.map vr ++ ([y1, y2] : List Rt).map vr)) nP2
          repeat (walk_at "s")
          refine ⟨P2, ps ++ [y1, y2], le2.trans (l3.trans (lg.trans l5)), by rw [updM_same, List.map_append], le_none (lp.trans (le2.trans (l3.trans lg))) nP2, by rw [List.length_append]; show ps.length + 2 ≤ _; omega, fun p hp => ?_, _, _, _, _, _, rfl⟩
          rcases List.mem_append.mp hp with hp | hp
          · exact pb p hp
          · simp only [List.mem_cons, List.not_mem_nil, or_false] at hp
            rcases hp with rfl | rfl
            · exact z1
            · exact z2
      · rintro σ M2 ⟨P, ps, le2, hP, nP, pl, pb, x9, x10, x11, x12, x13, rfl⟩
        rw [Int.toNat_natCast] at pl
        exact ⟨P, ps, le2, hP, nP, by omega, pb, _, _, _, _, _, rfl⟩
    clear hP pb pl5 nP
    rintro σ M2 ⟨P, ps, le2, hP, nP, pl, pb, x9, x10, x11, x12, x13, rfl⟩
    have le3 := le1.trans (lp.trans le2)
    have nPM := le_none le1 nP
    have FP : F ≠ P := neM hF nP
    have hF2 := le2 _ _ (lp _ _ hF)
    clear lp le2 nP
    refine wss_cut (fun σ M3 => ∃ qs : List Rt, LeX P M2 M3 ∧ M3 P = some (.lst (qs.map vr)) ∧ qs.length ≤ 45 ∧ (∀ p ∈ qs, Sh 601 p) ∧ ∃ (x9 x10 x11 x12 x13 : Option VV), σ = [some (.ref b), some (w), some (u), some (vr r), some (.ref F), some (.int ((i + 1 : Nat) : Int)), some (vsp a), some (vsp c), some (.ref P), x9, x10, x11, x12, x13]) ?_ ?_
    · refine ws_forLst B ?_
      repeat (walk_at "x")
      refine oc_list (.ref hP) fun Cp nC => ?_
      have CP : Cp ≠ P := (neM hP nC).symm
      have lC := LeM.new (o := .lst (ps.map vr)) nC
      have hC : updM M2 Cp (.lst (ps.map vr)) Cp = some (.lst (ps.map vr)) := updM_same
      have lx0 : LeX P M2 (updM M2 Cp (.lst (ps.map vr))) := LeX.refl.le lC
      have hP2 := lC _ _ hP
      generalize updM M2 Cp (.lst (ps.map vr)) = M4 at lx0 hC hP2
      clear lC nC
      refine ⟨_, .ref hC, fun j σ M3 => ∃ qs : List Rt, LeX P M2 M3 ∧ M3 Cp = some (.lst (ps.map vr)) ∧ M3 P = some (.lst (qs.map vr)) ∧ qs.length ≤ ps.length + 2 * j ∧ (∀ p ∈ qs, Sh 601 p) ∧ ∃ (x9 x10 x11 x12 x13 : Option VV), σ = [some (.ref b), some (w), some (u), some (vr r), some (.ref F), some (.int ((i + 1 : Nat) : Int)), some (vsp a), some (vsp c), some (.ref P), x9, x10, x11, x12, x13],
        ⟨ps, lx0, hC, hP2, by omega, fun p hp => (pb p hp).mono (by decide), _, _, _, _, _, rfl⟩, fun j σ M' _ ⟨_, _, h, _⟩ => .ref h, ?_, ?_⟩
      · rintro j v σ M3 hj hv ⟨qs, lx, hC3, hq, ql, qb, x9, x10, x11, x12, x13, rfl⟩
        rw [List.length_map] at hj
        rw [List.getElem?_map] at hv
        obtain ⟨p, hp, rfl⟩ := Option.map_eq_some_iff.mp hv
        have sp := pb p (List.mem_of_getElem? hp)
        walk_at "s"
        refine wss_cons ?_
        refine ws_forLst B ?_
        repeat (walk_at "x")
        refine ⟨by show 2 ≤ sizeLine; decide, ?_⟩
        repeat (walk_at "x")
        refine ⟨by show 2 ≤ sizeLine; decide, ?_⟩
        repeat (walk_at "x")
        refine ⟨by show 2 ≤ sizeLine; decide, fun g ng => ?_⟩
        have gP : g ≠ P := (neM hq ng).symm
        have lg := LeM.new (o := .lst [vr (1, 1000), vr (0 - 1, 1000)]) ng
        have hg : updM M3 g (.lst [vr (1, 1000), vr (0 - 1, 1000)]) g = some (.lst (([(1, 1000), (0 - 1, 1000)] : List Rt).map vr)) := updM_same
        have lx2 := lx.le lg
        have hq2 := lg _ _ hq
        have hC4 := lg _ _ hC3
        have gC : g ≠ Cp := (neM hC3 ng).symm
        generalize updM M3 g (.lst [vr (1, 1000), vr (0 - 1, 1000)]) = M5 at lx2 hg hq2 hC4
        refine ⟨_, .ref hg, fun m σ M6 => ∃ qs2 : List Rt, LeX P M2 M6 ∧ M6 Cp = some (.lst (ps.map vr)) ∧ M6 g = some (.lst (([(1, 1000), (0 - 1, 1000)] : List Rt).map vr)) ∧ M6 P = some (.lst (qs2.map vr)) ∧ qs2.length ≤ qs.length + m ∧ (∀ p ∈ qs2, Sh 601 p) ∧ ∃ (x9 x10 x12 x13 : Option VV), σ = [some (.ref b), some (w), some (u), some (vr r), some (.ref F), some (.int ((i + 1 : Nat) : Int)), some (vsp a), some (vsp c), some (.ref P), x9, x10, some (vr p), x12, x13],
          ⟨qs, lx2, hC4, hg, hq2, by omega, qb, _, _, _, _, rfl⟩, fun m σ M' _ ⟨_, _, _, h, _⟩ => .ref h, ?_, ?_⟩
        · rintro m v σ M6 hm hv ⟨qs2, lx3, hC6, hg6, hq6, ql2, qb2, x9, x10, x12, x13, rfl⟩
          rw [List.getElem?_map] at hv
          obtain ⟨mo, hmo, rfl⟩ := Option.map_eq_some_iff.mp hv
          have mb : RB 10 mo := by
            have hm2 := List.mem_of_getElem? hmo
            simp only [List.mem_cons, List.not_mem_nil, or_false] at hm2
            rcases hm2 with rfl | rfl
            · exact ⟨by decide, by decide, by decide⟩
            · exact ⟨by decide, by decide, by decide⟩
          have nb : RB 601 (rsum p mo) := sp.b.sum mb
          have ql3 : qs2.length ≤ 100 := by
            have : m < 2 := hm
            omega
          walk_at "s"
          repeat (walk_at "s")
          refine ⟨p, mo, rfl, sp.b.big, mb.big, ?_⟩
          generalize rsum p mo = near at nb
          repeat (walk_at "s")
          refine ite_dec (fun c1 => ?_) (fun c1 => ?_)
          · repeat (walk_at "s")
            refine ite_dec (fun c2 => ?_) (fun c2 => ?_)
            · repeat (walk_at "s")
              refine ⟨P, _, rfl, hq6, ?_⟩
              repeat (walk_at "s")
              refine ⟨_, hq6, Nat.lt_of_le_of_lt (show (qs2.map vr).length ≤ 100 by rw [List.length_map]; exact ql3) (by decide), ?_⟩
              repeat (walk_at "s")
              refine ⟨qs2 ++ [near], lx3.put, by rw [updM_ne CP]; exact hC6, by rw [updM_ne gP]; exact hg6, by rw [updM_same, List.map_append]; rfl, by rw [List.length_append]; show qs2.length + 1 ≤ _; omega, fun x hx => ?_, _, _, _, _, rfl⟩
              rcases List.mem_append.mp hx with hx | hx
              · exact qb2 x hx
              · rw [List.mem_singleton] at hx
                subst hx
                exact sh_of nb c1 c2
            · repeat (walk_at "s")
              exact ⟨qs2, lx3, hC6, hg6, hq6, by omega, qb2, _, _, _, _, rfl⟩
          · refine iteF ?_
            repeat (walk_at "s")
            exact ⟨qs2, lx3, hC6, hg6, hq6, by omega, qb2, _, _, _, _, rfl⟩
        · rintro σ M6 ⟨qs2, lx3, hC6, hg6, hq6, ql2, qb2, x9, x10, x12, x13, rfl⟩
          have ql2 : qs2.length ≤ qs.length + 2 := ql2
          repeat (walk_at "s")
          exact ⟨qs2, lx3, hC6, hq6, by omega, qb2, _, _, _, _, _, rfl⟩
      · rintro σ M3 ⟨qs, lx, hC3, hq, ql, qb, x9, x10, x11, x12, x13, rfl⟩
        rw [List.length_map] at ql
        exact ⟨qs, lx, hq, by omega, qb, _, _, _, _, _, rfl⟩
    rintro σ M3 ⟨qs, lx, hq, ql, qb, x9, x10, x11, x12, x13, rfl⟩
    have le4 : LeM M M3 := lx.fin le3 nPM
    have hF3 := lx F _ FP hF2
    clear lx le3 hP pb pl
    repeat (walk_at "s")
    refine we_lc B [("_law_part", 11)] (by decide +kernel) (by decide) (pgI1 B (by walk_at "at") (by rfl)) ctg_name ?_
    refine wi_lst ?_
    repeat (walk_at "x")
    refine ⟨_, .ref hq, ?_⟩
    refine compI_map qs (itm_lst (xs := qs) (v := vr) (.ref hq) (Nat.le_trans ql (by decide))) (fun t => vsp (onWay a c t)) ?_ ?_
    · rintro t x M5 ht rfl l5
      refine ⟨_, rfl, fun Y BY => ?_⟩
      have tb := qb t ht
      show WE Y _ [some (.ref b), some (w), some (u), some (vr r), some (.ref F), some (.int ((i + 1 : Nat) : Int)), some (vsp a), some (vsp c), some (.ref P), x9, x10, some (vr t), x12, x13] M5 _
      repeat (walk_at "s")
      refine ⟨a, c, t, rfl, oa.mono (by decide), ob.mono (by decide), tb.b.mono (by decide), ?_⟩
      exact ⟨rfl, LeM.refl⟩
    intro D nD M5 l5
    have hD : M5 D = some (.lst ((qs.map fun t => onWay a c t).map vsp)) := by rw [l5 _ _ updM_same, List.map_map]; rfl
    have l6 := (LeM.new nD).trans l5
    have hF5 := l6 _ _ hF3
    have le5 := le4.trans l6
    clear l5 l6 nD
    have ml : (qs.map fun t => onWay a c t).length ≤ 45 := by rw [List.length_map]; exact ql
    have mb : ∀ s ∈ qs.map (fun t => onWay a c t), SB 711 s ∧ OnRow ones s := fun s hs => by
      obtain ⟨t, ht, rfl⟩ := List.mem_map.mp hs
      have tb := qb t ht
      exact ⟨(onWay_bits2 oa ob tb.b).mono (by decide), .inr ⟨(a, c), hpc, t, tb.b.pos, tb.l, tb.h, rfl⟩⟩
    generalize qs.map (fun t => onWay a c t) = ms at hD ml mb
    refine o2_cat hF5 hD (by rw [List.length_map, List.length_map]; exact Nat.le_trans (show l.length + ms.length ≤ 1000 by omega) (by decide)) ?_
    intro F2 nF2
    have l7 := LeM.new (o := .lst (l.map vsp ++ ms.map vsp)) nF2
    repeat (walk_at "s")
    refine ⟨F2, l ++ ms, le_none le5 nF2, le5.trans l7, by rw [updM_same, List.map_append], by rw [List.length_append]; omega, fun s hs => ?_, _, _, _, _, _, _, _, _, _, rfl⟩
    rcases List.mem_append.mp hs with hs | hs
    · exact fb s hs
    · exact mb s hs
  · rintro σ M' ⟨F, l, nF, le1, hF, fl, fb, x5, x6, x7, x8, x9, x10, x11, x12, x13, rfl⟩
    repeat (walk_at "s")
    exact ⟨M', LeM.refl, q F l M' nF le1 (by omega) fb hF⟩
end G3

set_option Elab.async false
set_option linter.all false
set_option maxRecDepth 100000
set_option maxHeartbeats 4000000
set_option pp.maxSteps 1000
namespace G3
open PySem PySem.Spec L2
local macro_rules | `(tactic| walk_at "at") => `(tactic| with_reducible (repeat (first | exact At.here | apply At.there)))
local macro_rules | `(tactic| walk_at "vis") => `(tactic| first | exact Or.inl rfl | exact Or.inr (Or.inl rfl) | exact Or.inr (Or.inr rfl))
local macro_rules | `(tactic| walk_at "loc") => `(tactic| first | exact Or.inl rfl | exact Or.inr rfl)
local macro_rules | `(tactic| walk_at "as") => `(tactic| with_reducible assumption)
local macro_rules | `(tactic| walk_at "e") => `(tactic| first
  | ((with_reducible show G3.WE _ (.Name _ _) _ _ _); first | refine we_nm (by walk_at "as") (by walk_at "at") (by walk_at "vis") (by rfl) ?_ | refine we_tyn (by walk_at "as") (by rfl) (by walk_at "as") (by walk_at "as") ?_ | refine we_cls (C := He.ga _ _) (by walk_at "as") (by rfl) (by walk_at "as") ?_ | refine we_nmH (by walk_at "as") (by walk_at "at") (by walk_at "vis") (by rfl) ?_ | refine we_tynH (by walk_at "as") (by rfl) (by walk_at "as") (by walk_at "as") ?_ | refine we_clsH (C := He.ga _ _) (by walk_at "as") (by rfl) (by walk_at "as") ?_)
  | ((with_reducible show G3.WE _ (.Constant (.int _) _ _) _ _ _); refine we_int ?_)
  | ((with_reducible show G3.WE _ (.Subscript _ (.Slice _ _ (some _) _) _) _ _ _); refine we_rev ?_)
  | ((with_reducible show G3.WE _ (.Subscript _ (.Slice _ _ none _) _) _ _ _); refine we_slice ?_)
  | ((with_reducible show G3.WE _ (.Subscript _ _ _) _ _ _); refine we_ix ?_)
  | ((with_reducible show G3.WE _ (.BinOp _ _ _ _) _ _ _); refine we_op ?_)
  | ((with_reducible show G3.WE _ (.Call (.Name _ _) _ _ _) _ _ _); first
      | refine we_call (by walk_at "as") (by walk_at "as") (by decide) (by rfl) ?_
      | refine we_callB (by walk_at "as") (by rfl) (by walk_at "as") (by walk_at "as") ?_
      | refine we_callTy (by walk_at "as") (by rfl) (by walk_at "as") (by walk_at "as") ?_
      | refine we_callX (by walk_at "as") (by walk_at "as") (by walk_at "as") (by decide) (by rfl) (by walk_at "as") ?_
      | refine we_callBH (by walk_at "as") (by rfl) (by walk_at "as") (by walk_at "as") ?_)
  | ((with_reducible show G3.WE _ (.Attribute _ _ _) _ _ _); first | refine we_fld (by walk_at "as") ?_ | refine we_xfH (by walk_at "as") (by walk_at "as") (by walk_at "as") (by walk_at "as") ?_)
  | ((with_reducible show G3.WE _ (.Tuple _ _ _) _ _ _); refine we_tup ?_)
  | ((with_reducible show G3.WE _ (.List _ _) _ _ _); first | refine we_lstN ?_ | refine we_lst ?_)
  | ((with_reducible show G3.WE _ (.Compare _ [_] _ _) _ _ _); refine we_cmp ?_)
  | ((with_reducible show G3.WE _ (.Compare _ [_, _] _ _) _ _ _); refine we_chain ?_)
  | ((with_reducible show G3.WE _ (.UnaryOp .Not _ _) _ _ _); refine we_not ?_)
  | ((with_reducible show G3.WE _ (.UnaryOp _ _ _) _ _ _); refine we_un ?_)
  | ((with_reducible show G3.WE _ (.IfExp _ _ _ _) _ _ _); refine we_if ?_)
  | ((with_reducible show G3.WE _ (.Constant _ _ _) _ _ _); first | refine we_bl ?_ | refine we_non ?_ | refine we_str ?_)
  | ((with_reducible show G3.WE _ (.JoinedStr (_ :: _ :: _) _) _ _ _); refine we_joined ?_)
  | ((with_reducible show G3.WE _ (.FormattedValue _ _ _ _) _ _ _); refine we_fmt ?_)
  | ((with_reducible show G3.WE _ (.BoolOp _ [_] _) _ _ _); refine we_one ?_)
  | ((with_reducible show G3.WE _ (.BoolOp .And _ _) _ _ _); refine we_and ?_)
  | ((with_reducible show G3.WE _ (.BoolOp .Or _ _) _ _ _); refine we_or ?_))
local macro_rules | `(tactic| walk_at "t") => `(tactic| first
  | ((with_reducible show WT _ (.Compare _ [_] _ _) _ _ _); refine wt_cmp ?_)
  | ((with_reducible show WT _ (.Compare _ [_, _] _ _) _ _ _); refine wt_chain ?_)
  | ((with_reducible show WT _ (.UnaryOp .Not _ _) _ _ _); refine wt_not ?_)
  | ((with_reducible show WT _ (.BoolOp .And _ _) _ _ _); refine wt_w (ww_and ?_))
  | ((with_reducible show WT _ (.BoolOp .Or _ _) _ _ _); refine wt_w (ww_or ?_))
  | refine wt_truth ?_)
local macro_rules | `(tactic| walk_at "w") => `(tactic| first
  | ((with_reducible show WW _ (.BoolOp .And [_] _) _ _ _); refine ww_and1 ?_)
  | ((with_reducible show WW _ (.BoolOp .Or [_] _) _ _ _); refine ww_or1 ?_)
  | ((with_reducible show WW _ (.BoolOp .And _ _) _ _ _); refine ww_and ?_)
  | ((with_reducible show WW _ (.BoolOp .Or _ _) _ _ _); refine ww_or ?_))
local macro_rules | `(tactic| walk_at "st") => `(tactic| first
  | ((with_reducible show WS _ (.Assign [.Name _ _] (.ListComp _ _ _ _) _) _ _ _); fail)
  | ((with_reducible show WS _ (.Assign [.Name _ _] _ _) _ _ _); first | refine ws_set (by walk_at "as") (by walk_at "at") (by walk_at "loc") ?_ | refine ws_setH (by walk_at "as") (by walk_at "at") (by walk_at "loc") ?_)
  | ((with_reducible show WS _ (.Return (some _) _) _ _ _); refine ws_ret ?_)
  | ((with_reducible show WS _ (.If _ _ _ _) _ _ _); refine ws_if ?_)
  | ((with_reducible show WS _ (.Expr (.Call (.Attribute _ "append" _) _ _ _) _) _ _ _); refine ws_append ?_)
  | ((with_reducible show WS _ (.Expr (.Call (.Attribute _ "insert" _) _ _ _) _) _ _ _); refine ws_insert ?_)
  | ((with_reducible show WS _ (.Expr _ _) _ _ _); refine ws_expr ?_)
  | ((with_reducible show WS _ (.Assign [.Tuple _ _ _] (.Tuple _ _ _) _) _ _ _); first
      | refine ws_par2 (by walk_at "as") (by walk_at "at") (by walk_at "at") (by rfl) (by rfl) (by rfl) (by rfl) ?_
      | refine ws_asgT (by walk_at "as") (by rfl) ?_)
  | ((with_reducible show WS _ (.Raise (some _) none _) _ _ _); refine ws_raise (by walk_at "as") (by walk_at "as") ?_)
  | ((with_reducible show WS _ (.Assign [_] _ _) _ _ _); (fail_if_success (with_reducible show WS _ (.Assign [.Attribute _ _ _] _ _) _ _ _)); refine ws_asg ?_)
  | ((with_reducible show WS _ (.Return none _) _ _ _); refine ws_retN ?_)
  | ((with_reducible show WS _ (.Pass _) _ _ _); refine ws_pass ?_)
  | ((with_reducible show WS _ (.Break _) _ _ _); refine ws_break ?_)
  | ((with_reducible show WS _ (.Continue _) _ _ _); refine ws_continue ?_))
local macro_rules | `(tactic| walk_at "mul") => `(tactic| with_unfolding_all first
  | exact cml (by decide) (by decide)
  | exact cmr (by decide) (by decide)
  | exact cmw (by with_reducible assumption) (by with_reducible assumption) (by decide) (by decide) (by decide)
  | exact cml (by omega) (by omega)
  | exact cmr (by omega) (by omega))
local macro_rules | `(tactic| walk_at "o2") => `(tactic| with_reducible first
  | refine o2_add ?_
  | refine o2_sub ?_
  | refine o2_mul (by walk_at "mul") ?_
  | refine o2_lt ?_
  | refine o2_le ?_
  | refine o2_gt ?_
  | refine o2_ge ?_
  | refine o2_eqi ?_
  | refine o2_nei ?_
  | refine o2_eqb ?_
  | refine o2_neb ?_
  | refine o2_eqs ?_
  | refine o2_nes ?_
  | refine o2_isN ?_
  | refine o2_notN ?_)
local macro_rules | `(tactic| walk_at "x") => `(tactic| first
  | ((with_reducible show G3.WE _ _ _ _ _); walk_at "e")
  | ((with_reducible show WA _ _ _ _ _); first | refine wa_cons ?_ | refine wa_nil ?_)
  | ((with_reducible show WMk _ (.Call (.Name _ _) [] _ _) _ _ _); refine wmk_own0 (by walk_at "as") (by walk_at "as") (by decide) (by rfl) ?_)
  | ((with_reducible show WO _ _ _ _ _); first | (show G3.WE _ _ _ _ _))
  | ((with_reducible show WT _ _ _ _ _); walk_at "t")
  | ((with_reducible show G3.WJ _ _ _ _ _ _); first | refine wj_cons ?_ | refine wj_nil ?_)
  | ((with_reducible show G3.WK _ _ _ _ _); first | refine wk_cons ?_ | refine wk_nil ?_)
  | ((with_reducible show WW _ _ _ _ _); walk_at "w")
  | ((with_reducible show WS _ _ _ _ _); walk_at "st")
  | ((with_reducible show O2 _ _ _ _ _ _); walk_at "o2")
  | ((with_reducible show OI _ (.tup _) _ _ _); refine oi_tup rfl ?_)
  | ((with_reducible show OC _ _ _ _ _); with_reducible first | refine oc_abs ?_ | refine oc_int ?_ | refine oc_intb ?_ | refine oc_lenT ?_)
  | ((with_reducible show O1 _ _ _ _ _); refine o1_neg ?_)
  | ((with_reducible show BQ _ _ _); refine ⟨_, rfl, ?_⟩)
  | ((with_reducible show WG _ _ _ _ _ _); first | refine wg_name (by walk_at "as") (by walk_at "at") (by walk_at "loc") ?_ | refine wg_tup (by walk_at "as") ?_)
  | ((with_reducible show WGs _ _ _ _ _ _); first | refine wgs_cons (by walk_at "as") (by walk_at "at") (by walk_at "loc") ?_ | refine wgs_nil ?_))
local macro_rules | `(tactic| walk_at "s") => `(tactic| first
  | walk_at "x"
  | ((with_reducible show WSs _ _ _ _ _); first | refine wss_cons ?_ | refine wss_nil ?_))
theorem df_law21 {E : Ev} (hR : E.mg "range" = none) (hLe : E.mg "len" = none) (hL : E.mg "list" = none) (hAbs : E.mg "abs" = none) (D0 : E.df 1 "_law_bag" ["_law_script"] spBag) (D1 : E.df 1 "_law_draw" ["_law_bag_here", "_law_many"] spDraw) (D2 : E.df 5 "_law_corners" ["_law_bag_here", "_law_many"] spCornersV) (D3 : E.df 2 "_law_any" ["_law_bag_here", "_law_some"] spAny)
    (D4 : E.df 3 "_law_ratio" ["_law_bag_here", "_law_reach"] spRatioV) (D5 : E.df 6 "apart" ["spot", "polyline"] spApart) (D6 : E.df 6 "bare" ["ones", "others", "slack"] spBare) (D7 : E.df 6 "_law_spots_of" ["_law_bag_here", "_law_ones", "_law_others", "_law_room"] spSpotsOf) (D8 : E.df 5 "_law_reaches" ["_law_spot_here", "_law_polyline", "_law_room"] spReachG) (D9 : E.df 3 "_law_is_spot" ["_law_spot_here"] spIsSpot)
    (T : Tx E "law" (top 52) ["_law_script"]) : E.df 7 "law" ["_law_script"] spTop := by
  refine T.df ["_law_script", "_law_bag_here", "_law_good", "_law_turn", "_law_ones", "_law_others", "_law_gone", "_law_room", "_law_handed", "_law_told", "_law_spot_here"] ⟨rfl, rfl, rfl, by decide +kernel, rfl, by decide +kernel, by decide +kernel⟩ (fun ws M Q ⟨a, b, e, _⟩ => by rw [e]; rfl) fun X B ws M Q ⟨w, ns, e, hl, nb, q⟩ => ?_
  subst e
  have bL := bb_list
  have bLe := bb_len
  have bA := bb_abs
  show WSs X _ [some (w), none, none, none, none, none, none, none, none, none, none] M _
  repeat (walk_at "s")
  refine ⟨w, ns, rfl, hl, nb, fun b nb' => ?_⟩
  repeat (walk_at "s")
  refine ws_forRange1 B rfl hR ?_
  repeat (walk_at "s")
  refine ⟨_, rfl, ⟨by omega, by omega⟩, fun i σ M' => M' b = some .bag ∧ ∃ (x3 x4 x5 x6 x7 x8 x9 x10 : Option VV), σ = [some (w), some (.ref b), some (.bl true), x3, x4, x5, x6, x7, x8, x9, x10],
    ⟨updM_same, _, _, _, _, _, _, _, _, rfl⟩, fun _ _ _ _ _ => trivial, ?_, ?_⟩
  · rintro i u σ M' hi rfl ⟨hb, x3, x4, x5, x6, x7, x8, x9, x10, rfl⟩
    walk_at "s"
    walk_at "s"
    repeat (walk_at "s")
    refine ⟨b, rfl, hb, fun p row M1 np l1 r2 r5 rb hp => ?_⟩
    repeat (walk_at "s")
    refine ⟨b, 2, rfl, l1 _ _ hb, by decide, by decide, fun r r0 r1 => ?_⟩
    refine ⟨_, rfl, ?_⟩
    refine ⟨_, .ref hp, fun A nA => ?_⟩
    obtain ⟨r', rfl⟩ := Int.eq_ofNat_of_zero_le r0
    have cw : cutW (row.map vsp) (some (r' : Int)) none = (row.drop r').map vsp := (cut_from (a := r') rfl).trans List.map_drop.symm
    rw [cw]
    have hb1 := (LeM.new (o := .lst ((row.drop r').map vsp)) nA) _ _ (l1 _ _ hb)
    have hA := updM_same (M := M1) (a := A) (o := .lst ((row.drop r').map vsp))
    have ol : (row.drop r').length ≤ 5 := by rw [List.length_drop]; omega
    have one : row.drop r' ≠ [] := fun z => by
      have := congrArg List.length z
      rw [List.length_drop] at this
      simp at this
      omega
    have ob : ∀ s ∈ row.drop r', SB 36 s := fun s hs => rb s (List.mem_of_mem_drop hs)
    generalize updM M1 A (.lst ((row.drop r').map vsp)) = M2 at hb1 hA ⊢
    generalize row.drop r' = ones at ol one ob hA
    clear cw nA hp np l1 r0 r1 r2 r5 rb hb
    repeat (walk_at "s")
    refine ⟨b, rfl, hb1, fun p row M3 np l3 r2 r5 rb hp => ?_⟩
    repeat (walk_at "s")
    refine ⟨b, 2, rfl, l3 _ _ hb1, by decide, by decide, fun r r0 r1 => ?_⟩
    refine ⟨_, rfl, ?_⟩
    refine ⟨_, .ref hp, fun O nO => ?_⟩
    obtain ⟨r', rfl⟩ := Int.eq_ofNat_of_zero_le r0
    have cw : cutW (row.map vsp) (some (r' : Int)) none = (row.drop r').map vsp := (cut_from (a := r') rfl).trans List.map_drop.symm
    rw [cw]
    have lO := LeM.new (o := .lst ((row.drop r').map vsp)) nO
    have hb2 := lO _ _ (l3 _ _ hb1)
    have hA2 := lO _ _ (l3 _ _ hA)
    have hO := updM_same (M := M3) (a := O) (o := .lst ((row.drop r').map vsp))
    have tl : (row.drop r').length ≤ 5 := by rw [List.length_drop]; omega
    have tne : row.drop r' ≠ [] := fun z => by
      have := congrArg List.length z
      rw [List.length_drop] at this
      simp at this
      omega
    have tb : ∀ s ∈ row.drop r', SB 36 s := fun s hs => rb s (List.mem_of_mem_drop hs)
    generalize updM M3 O (.lst ((row.drop r').map vsp)) = M4 at hb2 hA2 hO ⊢
    generalize row.drop r' = ot0 at tl tne tb hO
    clear cw lO nO hp np l3 r0 r1 r2 r5 rb hb1 hA
    -- the second row, often the first one with one out
    refine wss_cut (fun σ M5 => ∃ (O : Addr) (others : List Spt), LeM M4 M5 ∧ M5 O = some (.lst (others.map vsp)) ∧ others.length ≤ 5 ∧ others ≠ [] ∧ (∀ s ∈ others, SB 36 s) ∧ ∃ (x6 x7 x8 x9 x10 : Option VV), σ = [some (w), some (.ref b), some (.bl true), some (.int i), some (.ref A), some (.ref O), x6, x7, x8, x9, x10]) ?_ ?_
    · have opos : 0 < ones.length := List.length_pos_iff.mpr one
      repeat (walk_at "s")
      refine ⟨b, 3, rfl, hb2, by decide, by decide, fun d d0 d1 => ?_⟩
      repeat (walk_at "s")
      refine ite_dec (fun c1 => ?_) (fun c1 => ?_)
      · repeat (walk_at "s")
        refine oc_len (.ref hA2) ?_
        rw [List.length_map]
        repeat (walk_at "s")
        refine ⟨b, ones.length, rfl, hb2, by omega, by omega, fun g g0 g1 => ?_⟩
        repeat (walk_at "s")
        refine oc_len (.ref hA2) ?_
        rw [List.length_map]
        repeat (walk_at "s")
        refine ite_dec (fun c2 => ?_) (fun c2 => ?_)
        · obtain ⟨init, z, er⟩ := (List.eq_nil_or_concat ones).resolve_left one
          rw [List.concat_eq_append] at er
          have zm : z ∈ ones := by rw [er]; simp
          have hat : atI (ones.map vsp) (-1) = some (vsp z) := by rw [er, List.map_append]; exact atI_last _ _
          have ha0 : (ones.map vsp)[0]? = some (vsp ones[0]) := by rw [List.getElem?_map, List.getElem?_eq_getElem opos]; rfl
          have am : ones[0] ∈ ones := List.getElem_mem opos
          generalize ones[0] = a at ha0 am
          repeat (walk_at "s")
          refine oi_lst (.ref hA2) (atI_nat (j := 0) ha0) ?_
          repeat (walk_at "s")
          refine oi_lst (.ref hA2) hat ?_
          repeat (walk_at "s")
          refine ⟨by show 2 ≤ sizeLine; decide, fun P nP => ?_⟩
          repeat (walk_at "s")
          refine ⟨P, [a, z], LeM.new nP, updM_same, by show 2 ≤ 5; decide, by simp, fun s hs => ?_, _, _, _, _, _, rfl⟩
          simp only [List.mem_cons, List.not_mem_nil, or_false] at hs
          rcases hs with rfl | rfl
          · exact ob _ am
          · exact ob _ zm
        · obtain ⟨g', rfl⟩ := Int.eq_ofNat_of_zero_le g0
          repeat (walk_at "s")
          refine ⟨_, rfl, ?_⟩
          refine ⟨_, .ref hA2, fun P1 n1 => ?_⟩
          rw [(cut_to (b := g') rfl : cutW (ones.map vsp) none (some (g' : Int)) = _)]
          have lp1 := LeM.new (o := .lst ((ones.map vsp).take g')) n1
          have hp1 : updM M4 P1 (.lst ((ones.map vsp).take g')) P1 = some (.lst ((ones.map vsp).take g')) := updM_same
          have hA3 := lp1 _ _ hA2
          generalize updM M4 P1 (.lst ((ones.map vsp).take g')) = M5 at lp1 hp1 hA3
          repeat (walk_at "s")
          refine ⟨_, rfl, ?_⟩
          refine ⟨_, .ref hA3, fun P2 n2 => ?_⟩
          rw [(cut_from (a := g' + 1) (by omega) : cutW (ones.map vsp) (some ((g' : Int) + 1)) none = _)]
          have lp2 := LeM.new (o := .lst ((ones.map vsp).drop (g' + 1))) n2
          have hp2 : updM M5 P2 (.lst ((ones.map vsp).drop (g' + 1))) P2 = some (.lst ((ones.map vsp).drop (g' + 1))) := updM_same
          have hp3 := lp2 _ _ hp1
          generalize updM M5 P2 (.lst ((ones.map vsp).drop (g' + 1))) = M6 at lp2 hp2 hp3
          refine o2_cat hp3 hp2 (by rw [List.length_take, List.length_drop, List.length_map]; exact Nat.le_trans (show min g' ones.length + (ones.length - (g' + 1)) ≤ 10 by omega) (by decide)) ?_
          intro P3 n3
          have lp3 := LeM.new (o := .lst ((ones.map vsp).take g' ++ (ones.map vsp).drop (g' + 1))) n3
          repeat (walk_at "s")
          refine ⟨P3, ones.take g' ++ ones.drop (g' + 1), lp1.trans (lp2.trans lp3), by rw [updM_same, List.map_append, List.map_take, List.map_drop], ?_, fun z => ?_, fun s hs => ?_, _, _, _, _, _, rfl⟩
          · rw [List.length_append, List.length_take, List.length_drop]; omega
          · have := congrArg List.length z
            rw [List.length_append, List.length_take, List.length_drop, List.length_nil] at this
            omega
          · rcases List.mem_append.mp hs with hs | hs
            · exact ob _ (List.mem_of_mem_take hs)
            · exact ob _ (List.mem_of_mem_drop hs)
      · repeat (walk_at "s")
        exact ⟨O, ot0, LeM.refl, hO, tl, tne, tb, _, _, _, _, _, rfl⟩
    clear hO tl tne tb
    rintro σ M5 ⟨O, others, l5, hO, tl, tne, tb, x6, x7, x8, x9, x10, rfl⟩
    have hb5 := l5 _ _ hb2
    have hA5 := l5 _ _ hA2
    clear l5 hb2 hA2
    refine wss_cut (fun σ M6 => ∃ rm : Rt, LeM M5 M6 ∧ RB 443 rm ∧ ∃ (x6 x8 x9 x10 : Option VV), σ = [some (w), some (.ref b), some (.bl true), some (.int i), some (.ref A), some (.ref O), x6, some (vr rm), x8, x9, x10]) ?_ ?_
    · repeat (walk_at "s")
      refine ⟨by show 2 ≤ sizeLine; decide, ?_⟩
      repeat (walk_at "s")
      refine ⟨by show 2 ≤ sizeLine; decide, ?_⟩
      repeat (walk_at "s")
      refine ⟨by show 2 ≤ sizeLine; decide, ?_⟩
      repeat (walk_at "s")
      refine ⟨by show 2 ≤ sizeLine; decide, ?_⟩
      repeat (walk_at "s")
      refine ⟨b, 5, rfl, hb5, by decide, fun x hx => ?_⟩
      have xb : RB 443 x := (hx.rb (n := 12) (by decide) (by decide)).mono (by decide)
      repeat (walk_at "s")
      refine ⟨by show 5 ≤ sizeLine; decide, fun g ng => ?_⟩
      have lg := LeM.new (o := .lst [vr (0, 1), vr (1, 2), vr (3, 1), vr (9, 1), vr x]) ng
      have hg : updM M5 g (.lst [vr (0, 1), vr (1, 2), vr (3, 1), vr (9, 1), vr x]) g = some (.lst [vr (0, 1), vr (1, 2), vr (3, 1), vr (9, 1), vr x]) := updM_same
      generalize updM M5 g (.lst [vr (0, 1), vr (1, 2), vr (3, 1), vr (9, 1), vr x]) = M6 at lg hg
      repeat (walk_at "s")
      refine ⟨b, _, _, rfl, lg _ _ hb5, .ref hg, by show 0 < 5; decide, by show 5 < 1000000; decide, fun z hz => ?_⟩
      obtain ⟨t, rfl, ht⟩ : ∃ t : Rt, z = vr t ∧ RB 443 t := by
        simp only [List.mem_cons, List.not_mem_nil, or_false] at hz
        rcases hz with h | h | h | h | h
        · exact ⟨(0, 1), h, (⟨by decide, by decide, by decide⟩ : RB 4 (0, 1)).mono (by decide)⟩
        · exact ⟨(1, 2), h, (⟨by decide, by decide, by decide⟩ : RB 4 (1, 2)).mono (by decide)⟩
        · exact ⟨(3, 1), h, (⟨by decide, by decide, by decide⟩ : RB 4 (3, 1)).mono (by decide)⟩
        · exact ⟨(9, 1), h, (⟨by decide, by decide, by decide⟩ : RB 4 (9, 1)).mono (by decide)⟩
        · exact ⟨x, h, xb⟩
      repeat (walk_at "s")
      exact ⟨t, lg, ht, _, _, _, _, rfl⟩
    rintro σ M6 ⟨rm, l6, rmb, x6, x8, x9, x10, rfl⟩
    have hb6 := l6 _ _ hb5
    have hA6 := l6 _ _ hA5
    have hO6 := l6 _ _ hO
    clear l6 hb5 hA5 hO
    have opos : 0 < ones.length := List.length_pos_iff.mpr one
    refine wss_cut (fun σ M7 => ∃ rm : Rt, M6 = M7 ∧ RB 443 rm ∧ ∃ (x6 x8 x9 x10 : Option VV), σ = [some (w), some (.ref b), some (.bl true), some (.int i), some (.ref A), some (.ref O), x6, some (vr rm), x8, x9, x10]) ?_ ?_
    · repeat (walk_at "s")
      refine ⟨b, 3, rfl, hb6, by decide, by decide, fun d d0 d1 => ?_⟩
      repeat (walk_at "s")
      refine ite_dec (fun c1 => ?_) (fun c1 => ?_)
      · repeat (walk_at "s")
        refine ⟨b, _, _, rfl, hb6, .ref hA6, by rw [List.length_map]; exact opos, by rw [List.length_map]; omega, fun x hx => ?_⟩
        obtain ⟨s1, h1, rfl⟩ := List.mem_map.mp hx
        have s1b := ob s1 h1
        repeat (walk_at "s")
        refine ⟨_, s1, others, rfl, .ref hO6, tne, by omega, s1b.mono (by decide), fun s hs => (tb s hs).mono (by decide), ?_⟩
        repeat (walk_at "s")
        exact ⟨_, rfl, apartF_bits2 s1b tb tne, _, _, _, _, rfl⟩
      · repeat (walk_at "s")
        exact ⟨rm, rfl, rmb, _, _, _, _, rfl⟩
    clear rmb rm
    rintro σ M7 ⟨rm, rfl, rmb, x6, x8, x9, x10, rfl⟩
    -- the room without its sign, the rows handed in
    repeat (walk_at "s")
    have rr : RB 443 (rabs rm) := rmb.abs
    have rn := rabs_nn rmb.pos
    refine ⟨by show 2 ≤ sizeLine; decide, ?_⟩
    show WSs X _ [some (w), some (.ref b), some (.bl true), some (.int i), some (.ref A), some (.ref O), x6, some (vr (rabs rm)), x8, x9, x10] M6 _
    generalize rabs rm = v at rr rn
    clear rmb rm
    have osp : ∀ s ∈ ones, SP s := fun s hs => (ob s hs).sp
    have tsp : ∀ s ∈ others, SP s := fun s hs => (tb s hs).sp
    repeat (walk_at "s")
    refine oc_list (.ref hA6) fun H1 n1 => ?_
    have lh1 := LeM.new (o := .lst (ones.map vsp)) n1
    have hH1 : updM M6 H1 (.lst (ones.map vsp)) H1 = some (.lst (ones.map vsp)) := updM_same
    generalize updM M6 H1 (.lst (ones.map vsp)) = M7 at lh1 hH1
    repeat (walk_at "s")
    refine oc_list (.ref (lh1 _ _ hO6)) fun H2 n2 => ?_
    have lh2 := LeM.new (o := .lst (others.map vsp)) n2
    have hH2 : updM M7 H2 (.lst (others.map vsp)) H2 = some (.lst (others.map vsp)) := updM_same
    generalize updM M7 H2 (.lst (others.map vsp)) = M8 at lh2 hH2
    repeat (walk_at "s")
    refine ⟨by show 2 ≤ sizeLine; decide, fun HL nL => ?_⟩
    have lh3 := LeM.new (o := .lst [.ref H1, .ref H2]) nL
    have hHL : updM M8 HL (.lst [.ref H1, .ref H2]) HL = some (.lst [.ref H1, .ref H2]) := updM_same
    generalize updM M8 HL (.lst [.ref H1, .ref H2]) = M9 at lh3 hHL
    have l69 := lh1.trans (lh2.trans lh3)
    have hH1' := lh3 _ _ (lh2 _ _ hH1)
    have hH2' := lh3 _ _ hH2
    have hb9 := l69 _ _ hb6
    have hA9 := l69 _ _ hA6
    have hO9 := l69 _ _ hO6
    clear lh1 lh2 lh3 hH1 hH2 n1 n2 nL hb6 hA6 hO6 l69
    repeat (walk_at "s")
    refine oi_lst (.ref hHL) rfl ?_
    repeat (walk_at "s")
    refine oi_lst (.ref hHL) rfl ?_
    repeat (walk_at "s")
    refine ⟨.ref H1, .ref H2, ones, others, v, rfl, .ref hH1', .ref hH2', one, tne, by omega, by omega, ob, tb, rr, ?_⟩
    have bb := fun s e => bare_bits (s := s) ob one tb tne rr e
    have bnone := fun (s : Spt) (h : SP s) (k : OnRow ones s) (e : bareF ones others v = none) => bare_none osp one tsp tne rr.pos rn.2 e h k
    have bsome := fun (s : Spt) (e : bareF ones others v = some s) => bare_some osp one tsp tne rr.pos rn.2 e
    generalize bareF ones others v = o at bb bnone bsome
    repeat (walk_at "s")
    refine iteT ?_
    repeat (walk_at "s")
    refine ⟨by show 2 ≤ sizeLine; decide, fun NL nN => ?_⟩
    have lN := LeM.new (o := .lst [.ref A, .ref O]) nN
    have hNL : updM M9 NL (.lst [.ref A, .ref O]) NL = some (.lst [.ref A, .ref O]) := updM_same
    generalize updM M9 NL (.lst [.ref A, .ref O]) = M10 at lN hNL
    refine o2_eqT (x := [ones, others]) (y := [ones, others]) (by have := B.room.units; exact Nat.lt_of_le_of_lt (Nat.add_le_add_left (by decide : _ ≤ 64) _) this)
      (.lst (.ref (lN _ _ hHL)) (.cons (dw_lst dw_vsp (.ref (lN _ _ hH1'))) (.cons (dw_lst dw_vsp (.ref (lN _ _ hH2'))) .nil)))
      (.lst (.ref hNL) (.cons (dw_lst dw_vsp (.ref (lN _ _ hA9))) (.cons (dw_lst dw_vsp (.ref (lN _ _ hO9))) .nil))) ?_
    rw [decide_eq_true rfl]
    have hb10 := lN _ _ hb9
    have hA10 := lN _ _ hA9
    have hO10 := lN _ _ hO9
    clear lN hNL hHL hH1' hH2' nN hb9 hA9 hO9
    repeat (walk_at "s")
    cases o with
    | none =>
      refine ite_yes rfl ?_
      refine wss_cons ?_
      refine ws_forLst B ?_
      repeat (walk_at "x")
      refine ⟨b, .ref A, .ref O, ones, others, v, rfl, hb10, .ref hA10, .ref hO10, one, ol, tl, ob, tb, rr, fun p l M11 np l11 ll lb hp => ?_⟩
      have hO11 := l11 _ _ hO10
      have hb11 := l11 _ _ hb10
      refine ⟨_, .ref hp, fun j σ M' => M11 = M' ∧ ∃ (x6 x10 : Option VV), σ = [some (w), some (.ref b), some (.bl true), some (.int i), some (.ref A), some (.ref O), x6, some (vr v), some (.ref HL), some (.non), x10], ⟨rfl, _, _, rfl⟩, fun j σ M' _ h => by have := h.1; subst this; exact .ref hp, ?_, ?_⟩
      · rintro j y σ M' hj hy ⟨rfl, x6, x10, rfl⟩
        rw [List.getElem?_map] at hy
        obtain ⟨s, hs, rfl⟩ := Option.map_eq_some_iff.mp hy
        obtain ⟨sb, sr⟩ := lb s (List.mem_of_getElem? hs)
        walk_at "s"
        repeat (walk_at "s")
        refine iteT ?_
        repeat (walk_at "s")
        refine ⟨.ref O, others, s, v, 711, 443, rfl, .ref hO11, by omega, tb, sb, rr, by decide, ?_⟩
        rw [bnone s sb.sp sr rfl]
        repeat (walk_at "s")
        exact ⟨rfl, _, _, rfl⟩
      · rintro σ M' ⟨rfl, x6, x10, rfl⟩
        repeat (walk_at "s")
        exact ⟨hb11, _, _, _, _, _, _, _, _, rfl⟩
    | some s =>
      have sb := bb s rfl
      obtain ⟨ssp, g1, g2, k1, k2⟩ := bsome s rfl
      refine ite_no (by intro z; cases z) ?_
      repeat (walk_at "s")
      refine iteT ?_
      repeat (walk_at "s")
      refine ⟨s, rfl, ⟨ssp.x, g1, Nat.lt_of_lt_of_le sb.x.n2 (Nat.pow_le_pow_right (by decide) (by decide))⟩, ⟨ssp.y, g2, Nat.lt_of_lt_of_le sb.y.n2 (Nat.pow_le_pow_right (by decide) (by decide))⟩, ?_⟩
      refine ⟨_, rfl, iteT ?_⟩
      repeat (walk_at "s")
      refine ⟨by show 2 ≤ sizeLine; decide, ?_⟩
      repeat (walk_at "s")
      refine ⟨.ref A, ones, s, (0, 1), 3059, 1, rfl, .ref hA10, by omega, ob, sb, RB.zero, by decide, ?_⟩
      rw [k1]
      repeat (walk_at "s")
      refine iteT ?_
      repeat (walk_at "s")
      refine ⟨.ref O, others, s, v, 3059, 443, rfl, .ref hO10, by omega, tb, sb, rr, by decide, ?_⟩
      rw [k2]
      repeat (walk_at "s")
      exact ⟨hb10, _, _, _, _, _, _, _, _, rfl⟩
  · rintro σ M' ⟨hb, x3, x4, x5, x6, x7, x8, x9, x10, rfl⟩
    repeat (walk_at "s")
    exact ⟨_, LeM.refl, q _⟩
end G3

set_option Elab.async false
set_option linter.all false
set_option maxRecDepth 100000
set_option maxHeartbeats 4000000
set_option pp.maxSteps 1000
namespace G3
open PySem PySem.Spec L2
local macro_rules | `(tactic| walk_at "at") => `(tactic| with_reducible (repeat (first | exact At.here | apply At.there)))
local macro_rules | `(tactic| walk_at "vis") => `(tactic| first | exact Or.inl rfl | exact Or.inr (Or.inl rfl) | exact Or.inr (Or.inr rfl))
local macro_rules | `(tactic| walk_at "loc") => `(tactic| first | exact Or.inl rfl | exact Or.inr rfl)
local macro_rules | `(tactic| walk_at "as") => `(tactic| with_reducible assumption)
local macro_rules | `(tactic| walk_at "e") => `(tactic| first
  | ((with_reducible show G3.WE _ (.Name _ _) _ _ _); first | refine we_nm (by walk_at "as") (by walk_at "at") (by walk_at "vis") (by rfl) ?_ | refine we_tyn (by walk_at "as") (by rfl) (by walk_at "as") (by walk_at "as") ?_ | refine we_cls (C := He.ga _ _) (by walk_at "as") (by rfl) (by walk_at "as") ?_ | refine we_nmH (by walk_at "as") (by walk_at "at") (by walk_at "vis") (by rfl) ?_ | refine we_tynH (by walk_at "as") (by rfl) (by walk_at "as") (by walk_at "as") ?_ | refine we_clsH (C := He.ga _ _) (by walk_at "as") (by rfl) (by walk_at "as") ?_)
  | ((with_reducible show G3.WE _ (.Constant (.int _) _ _) _ _ _); refine we_int ?_)
  | ((with_reducible show G3.WE _ (.Subscript _ (.Slice _ _ (some _) _) _) _ _ _); refine we_rev ?_)
  | ((with_reducible show G3.WE _ (.Subscript _ (.Slice _ _ none _) _) _ _ _); refine we_slice ?_)
  | ((with_reducible show G3.WE _ (.Subscript _ _ _) _ _ _); refine we_ix ?_)
  | ((with_reducible show G3.WE _ (.BinOp _ _ _ _) _ _ _); refine we_op ?_)
  | ((with_reducible show G3.WE _ (.Call (.Name _ _) _ _ _) _ _ _); first
      | refine we_call (by walk_at "as") (by walk_at "as") (by decide) (by rfl) ?_
      | refine we_callB (by walk_at "as") (by rfl) (by walk_at "as") (by walk_at "as") ?_
      | refine we_callTy (by walk_at "as") (by rfl) (by walk_at "as") (by walk_at "as") ?_
      | refine we_callX (by walk_at "as") (by walk_at "as") (by walk_at "as") (by decide) (by rfl) (by walk_at "as") ?_
      | refine we_callBH (by walk_at "as") (by rfl) (by walk_at "as") (by walk_at "as") ?_)
  | ((with_reducible show G3.WE _ (.Attribute _ _ _) _ _ _); first | refine we_fld (by walk_at "as") ?_ | refine we_xfH (by walk_at "as") (by walk_at "as") (by walk_at "as") (by walk_at "as") ?_)
  | ((with_reducible show G3.WE _ (.Tuple _ _ _) _ _ _); refine we_tup ?_)
  | ((with_reducible show G3.WE _ (.List _ _) _ _ _); first | refine we_lstN ?_ | refine we_lst ?_)
  | ((with_reducible show G3.WE _ (.Compare _ [_] _ _) _ _ _); refine we_cmp ?_)
  | ((with_reducible show G3.WE _ (.Compare _ [_, _] _ _) _ _ _); refine we_chain ?_)
  | ((with_reducible show G3.WE _ (.UnaryOp .Not _ _) _ _ _); refine we_not ?_)
  | ((with_reducible show G3.WE _ (.UnaryOp _ _ _) _ _ _); refine we_un ?_)
  | ((with_reducible show G3.WE _ (.IfExp _ _ _ _) _ _ _); refine we_if ?_)
  | ((with_reducible show G3.WE _ (.Constant _ _ _) _ _ _); first | refine we_bl ?_ | refine we_non ?_ | refine we_str ?_)
  | ((with_reducible show G3.WE _ (.JoinedStr (_ :: _ :: _) _) _ _ _); refine we_joined ?_)
  | ((with_reducible show G3.WE _ (.FormattedValue _ _ _ _) _ _ _); refine we_fmt ?_)
  | ((with_reducible show G3.WE _ (.BoolOp _ [_] _) _ _ _); refine we_one ?_)
  | ((with_reducible show G3.WE _ (.BoolOp .And _ _) _ _ _); refine we_and ?_)
  | ((with_reducible show G3.WE _ (.BoolOp .Or _ _) _ _ _); refine we_or ?_))
local macro_rules | `(tactic| walk_at "t") => `(tactic| first
  | ((with_reducible show WT _ (.Compare _ [_] _ _) _ _ _); refine wt_cmp ?_)
  | ((with_reducible show WT _ (.Compare _ [_, _] _ _) _ _ _); refine wt_chain ?_)
  | ((with_reducible show WT _ (.UnaryOp .Not _ _) _ _ _); refine wt_not ?_)
  | ((with_reducible show WT _ (.BoolOp .And _ _) _ _ _); refine wt_w (ww_and ?_))
  | ((with_reducible show WT _ (.BoolOp .Or _ _) _ _ _); refine wt_w (ww_or ?_))
  | refine wt_truth ?_)
local macro_rules | `(tactic| walk_at "w") => `(tactic| first
  | ((with_reducible show WW _ (.BoolOp .And [_] _) _ _ _); refine ww_and1 ?_)
  | ((with_reducible show WW _ (.BoolOp .Or [_] _) _ _ _); refine ww_or1 ?_)
  | ((with_reducible show WW _ (.BoolOp .And _ _) _ _ _); refine ww_and ?_)
  | ((with_reducible show WW _ (.BoolOp .Or _ _) _ _ _); refine ww_or ?_))
local macro_rules | `(tactic| walk_at "st") => `(tactic| first
  | ((with_reducible show WS _ (.Assign [.Name _ _] (.ListComp _ _ _ _) _) _ _ _); fail)
  | ((with_reducible show WS _ (.Assign [.Name _ _] _ _) _ _ _); first | refine ws_set (by walk_at "as") (by walk_at "at") (by walk_at "loc") ?_ | refine ws_setH (by walk_at "as") (by walk_at "at") (by walk_at "loc") ?_)
  | ((with_reducible show WS _ (.Return (some _) _) _ _ _); refine ws_ret ?_)
  | ((with_reducible show WS _ (.If _ _ _ _) _ _ _); refine ws_if ?_)
  | ((with_reducible show WS _ (.Expr (.Call (.Attribute _ "append" _) _ _ _) _) _ _ _); refine ws_append ?_)
  | ((with_reducible show WS _ (.Expr (.Call (.Attribute _ "insert" _) _ _ _) _) _ _ _); refine ws_insert ?_)
  | ((with_reducible show WS _ (.Expr _ _) _ _ _); refine ws_expr ?_)
  | ((with_reducible show WS _ (.Assign [.Tuple _ _ _] (.Tuple _ _ _) _) _ _ _); first
      | refine ws_par2 (by walk_at "as") (by walk_at "at") (by walk_at "at") (by rfl) (by rfl) (by rfl) (by rfl) ?_
      | refine ws_asgT (by walk_at "as") (by rfl) ?_)
  | ((with_reducible show WS _ (.Raise (some _) none _) _ _ _); refine ws_raise (by walk_at "as") (by walk_at "as") ?_)
  | ((with_reducible show WS _ (.Assign [_] _ _) _ _ _); (fail_if_success (with_reducible show WS _ (.Assign [.Attribute _ _ _] _ _) _ _ _)); refine ws_asg ?_)
  | ((with_reducible show WS _ (.Return none _) _ _ _); refine ws_retN ?_)
  | ((with_reducible show WS _ (.Pass _) _ _ _); refine ws_pass ?_)
  | ((with_reducible show WS _ (.Break _) _ _ _); refine ws_break ?_)
  | ((with_reducible show WS _ (.Continue _) _ _ _); refine ws_continue ?_))
local macro_rules | `(tactic| walk_at "mul") => `(tactic| with_unfolding_all first
  | exact cml (by decide) (by decide)
  | exact cmr (by decide) (by decide)
  | exact cmw (by with_reducible assumption) (by with_reducible assumption) (by decide) (by decide) (by decide)
  | exact cml (by omega) (by omega)
  | exact cmr (by omega) (by omega))
local macro_rules | `(tactic| walk_at "o2") => `(tactic| with_reducible first
  | refine o2_add ?_
  | refine o2_sub ?_
  | refine o2_mul (by walk_at "mul") ?_
  | refine o2_lt ?_
  | refine o2_le ?_
  | refine o2_gt ?_
  | refine o2_ge ?_
  | refine o2_eqi ?_
  | refine o2_nei ?_
  | refine o2_eqb ?_
  | refine o2_neb ?_
  | refine o2_eqs ?_
  | refine o2_nes ?_
  | refine o2_isN ?_
  | refine o2_notN ?_)
local macro_rules | `(tactic| walk_at "x") => `(tactic| first
  | ((with_reducible show G3.WE _ _ _ _ _); walk_at "e")
  | ((with_reducible show WA _ _ _ _ _); first | refine wa_cons ?_ | refine wa_nil ?_)
  | ((with_reducible show WMk _ (.Call (.Name _ _) [] _ _) _ _ _); refine wmk_own0 (by walk_at "as") (by walk_at "as") (by decide) (by rfl) ?_)
  | ((with_reducible show WO _ _ _ _ _); first | (show G3.WE _ _ _ _ _))
  | ((with_reducible show WT _ _ _ _ _); walk_at "t")
  | ((with_reducible show G3.WJ _ _ _ _ _ _); first | refine wj_cons ?_ | refine wj_nil ?_)
  | ((with_reducible show G3.WK _ _ _ _ _); first | refine wk_cons ?_ | refine wk_nil ?_)
  | ((with_reducible show WW _ _ _ _ _); walk_at "w")
  | ((with_reducible show WS _ _ _ _ _); walk_at "st")
  | ((with_reducible show O2 _ _ _ _ _ _); walk_at "o2")
  | ((with_reducible show OI _ (.tup _) _ _ _); refine oi_tup rfl ?_)
  | ((with_reducible show OC _ _ _ _ _); with_reducible first | refine oc_abs ?_ | refine oc_int ?_ | refine oc_intb ?_ | refine oc_lenT ?_)
  | ((with_reducible show O1 _ _ _ _ _); refine o1_neg ?_)
  | ((with_reducible show BQ _ _ _); refine ⟨_, rfl, ?_⟩)
  | ((with_reducible show WG _ _ _ _ _ _); first | refine wg_name (by walk_at "as") (by walk_at "at") (by walk_at "loc") ?_ | refine wg_tup (by walk_at "as") ?_)
  | ((with_reducible show WGs _ _ _ _ _ _); first | refine wgs_cons (by walk_at "as") (by walk_at "at") (by walk_at "loc") ?_ | refine wgs_nil ?_))
local macro_rules | `(tactic| walk_at "s") => `(tactic| first
  | walk_at "x"
  | ((with_reducible show WSs _ _ _ _ _); first | refine wss_cons ?_ | refine wss_nil ?_))
def lawK : Nat := 7
def exK (K : PySem.W.Frag) : Bool := He.tupB K "NOUGHT" [.int 0, .int 1] && (He.tupB K "ONE" [.int 1, .int 1] && He.tupB K "HALF" [.int 1, .int 2])
def fn : List He.DefD := ([dD "common" (top 5), dD "ratio" (top 6), dD "plus" (top 7), dD "minus" (top 8), dD "times" (top 9), dD "divided" (top 10), dD "order" (top 11), dD "less" (top 12), dD "size" (top 13), dD "least" (top 14), dD "apart_of" (top 15), dD "on_way" (top 16), dD "crossings" (top 19), dD "to_piece" (top 20), dD "pieces_of" (top 21), dD "apart" (top 22), dD "narrowed" (top 23), dD "near_span" (top 24), dD "sorted_two" (top 25), dD "lean" (top 26)] : List He.DefD) ++ ([dD "in_order" (top 27), dD "gap_in" (top 28), dD "bare" (top 29), dD "_law_bag" (top 31), dD "_law_draw" (top 32), dD "_law_whole" (top 33), dD "_law_any" (top 34), dD "_law_rat" (top 35), dD "_law_sum" (top 36), dD "_law_dif" (top 37), dD "_law_prod" (top 38), dD "_law_quo" (top 39), dD "_law_comp" (top 40), dD "_law_is_ratio" (top 41), dD "_law_is_spot" (top 42), dD "_law_ratio" (top 43), dD "_law_spot" (top 44), dD "_law_on" (top 45), dD "_law_corners" (top 46), dD "_law_span" (top 47)] : List He.DefD) ++ ([dD "_law_clip" (top 48), dD "_law_reaches" (top 49), dD "_law_bits" (top 50), dD "_law_spots_of" (top 51), dD "law" (top 52)] : List He.DefD)
def fa : List He.Fa := ([.glo "common", .glo "ratio", .glo "plus", .glo "minus", .glo "times", .glo "divided", .glo "order", .glo "less", .glo "size", .glo "least", .glo "apart_of", .glo "on_way", .glo "crossings", .glo "to_piece", .glo "pieces_of", .glo "apart", .glo "narrowed", .glo "near_span", .glo "sorted_two", .glo "lean"] : List He.Fa) ++ ([.glo "in_order", .glo "gap_in", .glo "bare", .glo "_law_bag", .glo "_law_draw", .glo "_law_whole", .glo "_law_any", .glo "_law_rat", .glo "_law_sum", .glo "_law_dif", .glo "_law_prod", .glo "_law_quo", .glo "_law_comp", .glo "_law_is_ratio", .glo "_law_is_spot", .glo "_law_ratio", .glo "_law_spot", .glo "_law_on", .glo "_law_corners", .glo "_law_span"] : List He.Fa) ++ ([.glo "_law_clip", .glo "_law_reaches", .glo "_law_bits", .glo "_law_spots_of", .glo "law", .free "abs", .free "int", .free "len", .free "list", .free "range", .free "isinstance", .free "bool", .free "tuple", .free "zip", .free "max", .glo "NOUGHT", .glo "ONE", .glo "HALF"] : List He.Fa)
def loose : List Str := (["__name__", "NoRatio", "NOUGHT", "HALF", "common", "ratio", "plus", "minus", "times", "divided", "order", "less", "size", "least", "apart_of", "on_way", "ONE", "crossings", "to_piece", "pieces_of"] : List Str) ++ (["apart", "narrowed", "near_span", "sorted_two", "lean", "in_order", "gap_in", "bare", "_law_bag", "_law_draw", "_law_whole", "_law_any", "_law_rat", "_law_sum", "_law_dif", "_law_prod", "_law_quo", "_law_comp", "_law_is_ratio", "_law_is_spot"] : List Str) ++ (["_law_ratio", "_law_spot", "_law_on", "_law_corners", "_law_span", "_law_clip", "_law_reaches", "_law_bits", "_law_spots_of"] : List Str)
theorem facts {E : Ev} {h : Heap} (X : E.K.In h) (G : h.Ns mainGlobals E.mg) (c : He.SaysD fa fn E.K) (ex : exK E.K = true) : E.df lawK "law" ["_law_script"] spTop := by
  have T_common : Tx E "common" (top 5) ["one", "other"] := Tx.mk X G c 0 0 rfl rfl fun _ _ _ _ _ _ us hl => match us, hl with | [_, _], _ => rfl
  have T_ratio : Tx E "ratio" (top 6) ["over", "under"] := Tx.mk X G c 1 1 rfl rfl fun _ _ _ _ _ _ us hl => match us, hl with | [_, _], _ => rfl
  have T_plus : Tx E "plus" (top 7) ["one", "other"] := Tx.mk X G c 2 2 rfl rfl fun _ _ _ _ _ _ us hl => match us, hl with | [_, _], _ => rfl
  have T_minus : Tx E "minus" (top 8) ["one", "other"] := Tx.mk X G c 3 3 rfl rfl fun _ _ _ _ _ _ us hl => match us, hl with | [_, _], _ => rfl
  have T_times : Tx E "times" (top 9) ["one", "other"] := Tx.mk X G c 4 4 rfl rfl fun _ _ _ _ _ _ us hl => match us, hl with | [_, _], _ => rfl
  have T_divided : Tx E "divided" (top 10) ["one", "other"] := Tx.mk X G c 5 5 rfl rfl fun _ _ _ _ _ _ us hl => match us, hl with | [_, _], _ => rfl
  have T_order : Tx E "order" (top 11) ["one", "other"] := Tx.mk X G c 6 6 rfl rfl fun _ _ _ _ _ _ us hl => match us, hl with | [_, _], _ => rfl
  have T_less : Tx E "less" (top 12) ["one", "other"] := Tx.mk X G c 7 7 rfl rfl fun _ _ _ _ _ _ us hl => match us, hl with | [_, _], _ => rfl
  have T_size : Tx E "size" (top 13) ["one"] := Tx.mk X G c 8 8 rfl rfl fun _ _ _ _ _ _ us hl => match us, hl with | [_], _ => rfl
  have T_least : Tx E "least" (top 14) ["some"] := Tx.mk X G c 9 9 rfl rfl fun _ _ _ _ _ _ us hl => match us, hl with | [_], _ => rfl
  have T_apart_of : Tx E "apart_of" (top 15) ["one", "other"] := Tx.mk X G c 10 10 rfl rfl fun _ _ _ _ _ _ us hl => match us, hl with | [_, _], _ => rfl
  have T_on_way : Tx E "on_way" (top 16) ["one", "other", "share"] := Tx.mk X G c 11 11 rfl rfl fun _ _ _ _ _ _ us hl => match us, hl with | [_, _, _], _ => rfl
  have T_crossings : Tx E "crossings" (top 19) ["start", "far"] := Tx.mk X G c 12 12 rfl rfl fun _ _ _ _ _ _ us hl => match us, hl with | [_, _], _ => rfl
  have T_to_piece : Tx E "to_piece" (top 20) ["spot", "one", "other"] := Tx.mk X G c 13 13 rfl rfl fun _ _ _ _ _ _ us hl => match us, hl with | [_, _, _], _ => rfl
  have T_pieces_of : Tx E "pieces_of" (top 21) ["polyline"] := Tx.mk X G c 14 14 rfl rfl fun _ _ _ _ _ _ us hl => match us, hl with | [_], _ => rfl
  have T_apart : Tx E "apart" (top 22) ["spot", "polyline"] := Tx.mk X G c 15 15 rfl rfl fun _ _ _ _ _ _ us hl => match us, hl with | [_, _], _ => rfl
  have T_narrowed : Tx E "narrowed" (top 23) ["span", "start", "far", "low", "high"] := Tx.mk X G c 16 16 rfl rfl fun _ _ _ _ _ _ us hl => match us, hl with | [_, _, _, _, _], _ => rfl
  have T_near_span : Tx E "near_span" (top 24) ["piece", "other", "slack"] := Tx.mk X G c 17 17 rfl rfl fun _ _ _ _ _ _ us hl => match us, hl with | [_, _, _], _ => rfl
  have T_sorted_two : Tx E "sorted_two" (top 25) ["one", "other"] := Tx.mk X G c 18 18 rfl rfl fun _ _ _ _ _ _ us hl => match us, hl with | [_, _], _ => rfl
  have T_lean : Tx E "lean" (top 26) ["x", "y", "c", "spot"] := Tx.mk X G c 19 19 rfl rfl fun _ _ _ _ _ _ us hl => match us, hl with | [_, _, _, _], _ => rfl
  have T_in_order : Tx E "in_order" (top 27) ["spans"] := Tx.mk X G c 20 20 rfl rfl fun _ _ _ _ _ _ us hl => match us, hl with | [_], _ => rfl
  have T_gap_in : Tx E "gap_in" (top 28) ["spans"] := Tx.mk X G c 21 21 rfl rfl fun _ _ _ _ _ _ us hl => match us, hl with | [_], _ => rfl
  have T_bare : Tx E "bare" (top 29) ["ones", "others", "slack"] := Tx.mk X G c 22 22 rfl rfl fun _ _ _ _ _ _ us hl => match us, hl with | [_, _, _], _ => rfl
  have T__law_bag : Tx E "_law_bag" (top 31) ["_law_script"] := Tx.mk X G c 23 23 rfl rfl fun _ _ _ _ _ _ us hl => match us, hl with | [_], _ => rfl
  have T__law_draw : Tx E "_law_draw" (top 32) ["_law_bag_here", "_law_many"] := Tx.mk X G c 24 24 rfl rfl fun _ _ _ _ _ _ us hl => match us, hl with | [_, _], _ => rfl
  have T__law_whole : Tx E "_law_whole" (top 33) ["_law_found"] := Tx.mk X G c 25 25 rfl rfl fun _ _ _ _ _ _ us hl => match us, hl with | [_], _ => rfl
  have T__law_any : Tx E "_law_any" (top 34) ["_law_bag_here", "_law_some"] := Tx.mk X G c 26 26 rfl rfl fun _ _ _ _ _ _ us hl => match us, hl with | [_, _], _ => rfl
  have T__law_rat : Tx E "_law_rat" (top 35) ["_law_over", "_law_under"] := Tx.mk X G c 27 27 rfl rfl fun _ _ _ _ _ _ us hl => match us, hl with | [_, _], _ => rfl
  have T__law_sum : Tx E "_law_sum" (top 36) ["_law_one", "_law_two"] := Tx.mk X G c 28 28 rfl rfl fun _ _ _ _ _ _ us hl => match us, hl with | [_, _], _ => rfl
  have T__law_dif : Tx E "_law_dif" (top 37) ["_law_one", "_law_two"] := Tx.mk X G c 29 29 rfl rfl fun _ _ _ _ _ _ us hl => match us, hl with | [_, _], _ => rfl
  have T__law_prod : Tx E "_law_prod" (top 38) ["_law_one", "_law_two"] := Tx.mk X G c 30 30 rfl rfl fun _ _ _ _ _ _ us hl => match us, hl with | [_, _], _ => rfl
  have T__law_quo : Tx E "_law_quo" (top 39) ["_law_one", "_law_two"] := Tx.mk X G c 31 31 rfl rfl fun _ _ _ _ _ _ us hl => match us, hl with | [_, _], _ => rfl
  have T__law_comp : Tx E "_law_comp" (top 40) ["_law_one", "_law_two"] := Tx.mk X G c 32 32 rfl rfl fun _ _ _ _ _ _ us hl => match us, hl with | [_, _], _ => rfl
  have T__law_is_ratio : Tx E "_law_is_ratio" (top 41) ["_law_one"] := Tx.mk X G c 33 33 rfl rfl fun _ _ _ _ _ _ us hl => match us, hl with | [_], _ => rfl
  have T__law_is_spot : Tx E "_law_is_spot" (top 42) ["_law_spot_here"] := Tx.mk X G c 34 34 rfl rfl fun _ _ _ _ _ _ us hl => match us, hl with | [_], _ => rfl
  have T__law_ratio : Tx E "_law_ratio" (top 43) ["_law_bag_here", "_law_reach"] := Tx.mk X G c 35 35 rfl rfl fun _ _ _ _ _ _ us hl => match us, hl with | [_, _], _ => rfl
  have T__law_spot : Tx E "_law_spot" (top 44) ["_law_bag_here", "_law_reach"] := Tx.mk X G c 36 36 rfl rfl fun _ _ _ _ _ _ us hl => match us, hl with | [_, _], _ => rfl
  have T__law_on : Tx E "_law_on" (top 45) ["_law_one", "_law_two", "_law_part"] := Tx.mk X G c 37 37 rfl rfl fun _ _ _ _ _ _ us hl => match us, hl with | [_, _, _], _ => rfl
  have T__law_corners : Tx E "_law_corners" (top 46) ["_law_bag_here", "_law_many"] := Tx.mk X G c 38 38 rfl rfl fun _ _ _ _ _ _ us hl => match us, hl with | [_, _], _ => rfl
  have T__law_span : Tx E "_law_span" (top 47) ["_law_bits_here", "_law_start", "_law_far", "_law_low", "_law_high"] := Tx.mk X G c 39 39 rfl rfl fun _ _ _ _ _ _ us hl => match us, hl with | [_, _, _, _, _], _ => rfl
  have T__law_clip : Tx E "_law_clip" (top 48) ["_law_one", "_law_two", "_law_low", "_law_high"] := Tx.mk X G c 40 40 rfl rfl fun _ _ _ _ _ _ us hl => match us, hl with | [_, _, _, _], _ => rfl
  have T__law_reaches : Tx E "_law_reaches" (top 49) ["_law_spot_here", "_law_polyline", "_law_room"] := Tx.mk X G c 41 41 rfl rfl fun _ _ _ _ _ _ us hl => match us, hl with | [_, _, _], _ => rfl
  have T__law_bits : Tx E "_law_bits" (top 50) ["_law_one", "_law_two", "_law_a", "_law_b", "_law_room"] := Tx.mk X G c 42 42 rfl rfl fun _ _ _ _ _ _ us hl => match us, hl with | [_, _, _, _, _], _ => rfl
  have T__law_spots_of : Tx E "_law_spots_of" (top 51) ["_law_bag_here", "_law_ones", "_law_others", "_law_room"] := Tx.mk X G c 43 43 rfl rfl fun _ _ _ _ _ _ us hl => match us, hl with | [_, _, _, _], _ => rfl
  have T_law : Tx E "law" (top 52) ["_law_script"] := Tx.mk X G c 44 44 rfl rfl fun _ _ _ _ _ _ us hl => match us, hl with | [_], _ => rfl
  have h_abs : E.mg "abs" = none := free_mk X G c 45 rfl
  have h_int : E.mg "int" = none := free_mk X G c 46 rfl
  have h_len : E.mg "len" = none := free_mk X G c 47 rfl
  have h_list : E.mg "list" = none := free_mk X G c 48 rfl
  have h_range : E.mg "range" = none := free_mk X G c 49 rfl
  have h_isinstance : E.mg "isinstance" = none := free_mk X G c 50 rfl
  have h_bool : E.mg "bool" = none := free_mk X G c 51 rfl
  have h_tuple : E.mg "tuple" = none := free_mk X G c 52 rfl
  have h_zip : E.mg "zip" = none := free_mk X G c 53 rfl
  have h_max : E.mg "max" = none := free_mk X G c 54 rfl
  obtain ⟨ex1, ex23⟩ := He.ba ex
  obtain ⟨ex2, ex3⟩ := He.ba ex23
  have hN := tup_mk X G c 55 rfl ex1 fun H => .cons (.int 0) (.cons (.int 1) .nil)
  have hO := tup_mk X G c 56 rfl ex2 fun H => .cons (.int 1) (.cons (.int 1) .nil)
  have hH := tup_mk X G c 57 rfl ex3 fun H => .cons (.int 1) (.cons (.int 2) .nil)
  have P1 := df_common h_abs T_common
  have P2 := df_ratio P1 T_ratio
  have P4 := df_plus P2 T_plus
  have P5 := df_minus P2 T_minus
  have P6 := df_times P2 T_times
  have P7 := df_divided P2 T_divided
  have P8 := df_order T_order
  have P9 := df_less P8 T_less
  have P10 := df_size h_abs T_size
  have P11 := df_least P9 T_least
  have P12 := df_apart_of P10 P5 P9 T_apart_of
  have P13 := df_on_way P4 P5 P6 T_on_way
  have P14 := df_crossings hN P5 P7 T_crossings
  have P15 := df_to_piece hN hO P11 P5 P4 P14 P9 P12 P13 T_to_piece
  have P16 := df_pieces_of h_len h_list h_zip T_pieces_of
  have P17 := df_apart P11 P15 P16 T_apart
  have P18 := df_on_wayW P4 P5 P6 T_on_way
  have P19 := df_narrowed hN P5 P7 P9 T_narrowed
  have P20 := df_sorted_two P9 T_sorted_two
  have P21 := df_lean P5 P6 T_lean
  have P22 := df_near_span hN hO P5 P4 P6 P10 P19 P20 P21 T_near_span
  have P23 := df_in_order h_len P9 T_in_order
  have P24 := df_gap_in hN hO hH P9 P4 P6 P23 T_gap_in
  have P25 := df_bare P16 P22 P24 P18 T_bare
  have L1 := df_bag h_list T__law_bag
  have L2 := df_draw h_len T__law_draw
  have L3 := df_any h_len L2 T__law_any
  have L4 := df_rat h_abs T__law_rat
  have L5 := df_lsum L4 T__law_sum
  have L6 := df_ldif L4 T__law_dif
  have L7 := df_lprod L4 T__law_prod
  have L8 := df_lquo L4 T__law_quo
  have L9 := df_lcomp T__law_comp
  have L10 := df_ratioV L3 L2 L4 T__law_ratio
  have L11 := df_spotV L10 T__law_spot
  have L12 := df_isint h_isinstance h_bool h_int T__law_whole
  have L13 := df_isratio h_isinstance h_tuple h_len L12 L4 T__law_is_ratio
  have L14 := df_isspot h_isinstance h_tuple h_len L13 T__law_is_spot
  have L15 := df_lon L5 L6 L7 T__law_on
  have L16 := df_cornersV h_range L2 L11 L5 L10 L3 T__law_corners
  have L17 := df_spanG L9 L8 L6 T__law_span
  have L18 := df_clipG h_range L17 L6 T__law_clip
  have L19 := df_reachG h_range h_len h_max L18 L6 L5 T__law_reaches
  have L20 := df_lbits h_range L9 L6 L5 L18 T__law_bits
  have L21 := df_spots_of h_range h_len h_max h_list L2 L4 L5 L20 L15 T__law_spots_of
  exact df_law21 h_range h_len h_list h_abs L1 L2 L16 L3 L10 P17 P25 L21 L19 L14 T_law
abbrev R : PySem.W.OpenRow := PySem.W.OpenLaw.row PySem.Challenge.rw_gromatic_k21_whole_bare_points
abbrev hk : PySem.W.Hook := He.hookX 4 fa fn [] [] exK
def ob (s : PySem.W.SharedT) : He.AlX := He.obsX 4 fa fn [] [] exK (HandSHeadRun.getT s)
theorem ob_eq (s : PySem.W.SharedT) : ob s = hk.obs s.abs := He.obsX_eq (HandSHeadRun.getT_eq s)
theorem run (w : World) : HandSHeadRun.RunEq R (PySem.W.view R.prog [52]) hk ob 8000 loose w := by
  intro os
  kernel_rfl
end G3
open PySem PySem.W PySem.Calls PyProof.Rows
theorem PySem.Challenge.cw_gromatic_k21_whole_bare_points_holds : PySem.Challenge.rw_gromatic_k21_whole_bare_points.Holds := by
  w_on; o_law
  refine HandSHeadRun.head_any (r := OpenLaw.row PySem.Challenge.rw_gromatic_k21_whole_bare_points) (q := view (OpenLaw.row PySem.Challenge.rw_gromatic_k21_whole_bare_points).prog [52]) (H := G3.hk) (ob := G3.ob) (M := 8000) (loose := G3.loose) (d := HandSHeadRun.topDef (OpenLaw.row PySem.Challenge.rw_gromatic_k21_whole_bare_points).prog 52) (kwd := []) G3.ob_eq
    (by kernel_rfl) (fun s => by kernel_rfl) G3.run (by kernel_rfl) (by kernel_rfl) (by kernel_rfl) (by rfl) (by first | assumption | decide +kernel) (by decide +kernel) ⟨rfl, rfl, rfl, rfl, rfl, by decide +kernel⟩ ?hw ?hc
  case hw => w_witness2
  case hc =>
    refine L2.walk_ofE (l := PySem.Challenge.rw_gromatic_k21_whole_bare_points) (n := 63) (k := G3.lawK) (x := "_law_script") (CX := L2.CX0) rfl (by decide) (by kernel_rfl) ⟨rfl, by decide, by decide⟩ ?F (fun _ _ _ _ z => z)
    intro w mg fa h Y G hmg0
    obtain ⟨K, KX, c⟩ := Y
    have hmg : mg ("law" : PySem.Str) = some (.ref fa) := by
      have e : (HandSHeadRun.topDef (OpenLaw.row PySem.Challenge.rw_gromatic_k21_whole_bare_points).prog 52).name = ("law" : PySem.Str) := by kernel_rfl
      rw [← e]
      exact hmg0
    have all := fun base => G3.facts (E := ⟨(PySem.Challenge.rw_gromatic_k21_whole_bare_points).prog, w, K, mg, base, L2.CX0, fun _ _ _ => L2.pass0⟩) KX G (G3.SaysT_d c.t) c.more
    obtain ⟨fd, hb, _, oc, od, osl, lk⟩ := G3.end_of (all h) hmg
    refine ⟨K, fd, G3.toSp K G3.spTop, KX, hb, fun H a ns hl _ hS => G3.end_sp hS, fun base _ _ => ?_⟩
    obtain ⟨fd', hb', hF, oc', od', osl', lk'⟩ := G3.end_of (all base) hmg
    have e := lk.symm.trans lk'
    cases e
    exact hF
