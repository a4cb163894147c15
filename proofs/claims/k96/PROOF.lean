import PyProof.Rows.All
import Wide.All
import OpenK.AllK
import Wide.FinOn
import HandS.ForMost
import HandS.NestedK
import HandS.Conv
import HandS.IsInst
import HandS.NoneIn
import HandS.Deep
import HandS.TupAny
import HandS.TupMul
import HandS.TupLen
import HandS.SetKeys
import HandS.Wide
import KE.GoesEnum
import HandS.DictComp
import KE.KDictDisplayH
import KE.KDictPairs
import HandS.TupSets
import KE.SortData
import PySem.Challenge.RW_mildwarden_k96_whole_apart_and_together
import HandS.EndTab
import KE.KNestM
set_option Elab.async false
set_option linter.all false
section
set_option Elab.async false
set_option linter.all false
set_option maxRecDepth 100000
/-! MwBase: data D over the abstract heap, what represents what, the lowered judgements. -/
namespace MW
open PySem PySem.Spec PyProof.Rows L2

/-- data: immutable through and through, but .ref (a cell, or anything) and .obj -/
inductive D where
  | non | bl (b : Bool) | int (i : Int) | str (x : Str) | ty (n : String)
  | tup (xs : List D) | lst (xs : List D)
  | dI (kvs : List (Int × D)) | dP (kvs : List ((Int × Int) × D))
  | obj (a : Addr) (o : HO) | ref (a : Addr) | tab (nm : Nat → Nat → Str)
  | clo (f : Addr) (F : NdefX.NF) (vs : List V) (ds : List D)

/-- what is never written -/
def Stable : HO → Prop
  | .lst _ => False
  | .dK _ => False
  | .dT _ => False
  | .set _ _ => False
  | .ins _ _ _ => False
  | .tbl _ => False
  | _ => True

abbrev pk (k : Int × Int) : List Key := [Sum.inl k.1, Sum.inl k.2]

/-- a list that is read only: frozen, or of the module -/
def FrL (K : PySem.W.Frag) (H : Hp) (a : Addr) (xs : List V) : Prop :=
  (∃ o, H a = some (.frz o (.lst xs))) ∨
    ∃ (o : Obj) (its : Array Value) (n : Nat), K.lookup a = some o ∧ o.cls = .type "list" ∧ o.dict = none ∧ o.data = .seq its n ∧ its.size ≤ sizeLine ∧ Vals xs its.toList

mutual
inductive Rep (K : PySem.W.Frag) (H : Hp) : D → V → Prop
  | non : Rep K H .non .non
  | bl (b : Bool) : Rep K H (.bl b) (.bl b)
  | int (i : Int) : Rep K H (.int i) (.int i)
  | str (x : Str) : Rep K H (.str x) (.str x)
  | ty (n : String) : Rep K H (.ty n) (.ty n)
  | tup {a : Addr} {vs : List V} {ds : List D} : H a = some (.tup vs) → RepL K H ds vs → Rep K H (.tup ds) (.ref a)
  | lst {a : Addr} {vs : List V} {ds : List D} : FrL K H a vs → RepL K H ds vs → Rep K H (.lst ds) (.ref a)
  | dI {a : Addr} {o : Obj} {ws : List (Key × V)} {kvs : List (Int × D)} : H a = some (.frz o (.dK ws)) → RepI K H kvs ws → Rep K H (.dI kvs) (.ref a)
  | dP {a : Addr} {o : Obj} {ws : List (List Key × V)} {kvs : List ((Int × Int) × D)} : H a = some (.frz o (.dT ws)) → RepP K H kvs ws → Rep K H (.dP kvs) (.ref a)
  | obj {a : Addr} {o : HO} : H a = some o → Stable o → Rep K H (.obj a o) (.ref a)
  | clo {f : Addr} {F : NdefX.NF} {vs : List V} {ds : List D} : H f = some (NdefX.FnO f F) → H F.c = some (LamX.CodeO F.c F.qual) → RepL K H ds vs → Rep K H (.clo f F vs ds) (.ref f)
  | ref (a : Addr) : Rep K H (.ref a) (.ref a)
inductive RepL (K : PySem.W.Frag) (H : Hp) : List D → List V → Prop
  | nil : RepL K H [] []
  | cons {d : D} {v : V} {ds : List D} {vs : List V} : Rep K H d v → RepL K H ds vs → RepL K H (d :: ds) (v :: vs)
inductive RepI (K : PySem.W.Frag) (H : Hp) : List (Int × D) → List (Key × V) → Prop
  | nil : RepI K H [] []
  | cons {k : Int} {d : D} {v : V} {ds : List (Int × D)} {vs : List (Key × V)} : Rep K H d v → RepI K H ds vs → RepI K H ((k, d) :: ds) ((Sum.inl k, v) :: vs)
inductive RepP (K : PySem.W.Frag) (H : Hp) : List ((Int × Int) × D) → List (List Key × V) → Prop
  | nil : RepP K H [] []
  | cons {k : Int × Int} {d : D} {v : V} {ds : List ((Int × Int) × D)} {vs : List (List Key × V)} : Rep K H d v → RepP K H ds vs → RepP K H ((k, d) :: ds) ((pk k, v) :: vs)
end

/-- what is never written stays -/
def Keep (H H' : Hp) : Prop := ∀ b o, H b = some o → Stable o → H' b = some o
theorem Keep.refl (H : Hp) : Keep H H := fun _ _ h _ => h
theorem Keep.trans {H H1 H2 : Hp} (a : Keep H H1) (b : Keep H1 H2) : Keep H H2 := fun c o h s => b c o (a c o h s) s
theorem Keep.fresh {H : Hp} {p : Addr} {o : HO} (h : H p = none) : Keep H (upd H p o) := fun b u e _ => by rw [upd_ne (ne_of_none e h)]; exact e
theorem Keep.over {H : Hp} {p : Addr} {o o' : HO} (h : H p = some o) (n : ¬ Stable o) : Keep H (upd H p o') := fun b u e s => by
  by_cases hb : b = p
  · subst hb; rw [h] at e; cases e; exact absurd s n
  · rw [upd_ne hb]; exact e

section
variable {K : PySem.W.Frag} {H H' : Hp}
theorem FrL.keep {a : Addr} {xs : List V} (k : Keep H H') (h : FrL K H a xs) : FrL K H' a xs := by
  rcases h with ⟨o, h⟩ | h
  · exact .inl ⟨o, k _ _ h trivial⟩
  · exact .inr h
theorem FrL.sq {a : Addr} {xs : List V} (h : FrL K H a xs) : SqL K H a xs := by
  rcases h with ⟨o, h⟩ | h
  · exact .inl (.inr ⟨o, h⟩)
  · exact .inr h
mutual
theorem Rep.keep (k : Keep H H') : ∀ {d : D} {v : V}, Rep K H d v → Rep K H' d v
  | _, _, .non => .non
  | _, _, .bl b => .bl b
  | _, _, .int i => .int i
  | _, _, .str x => .str x
  | _, _, .ty n => .ty n
  | _, _, .tup h r => .tup (k _ _ h trivial) (RepL.keep k r)
  | _, _, .lst h r => .lst (h.keep k) (RepL.keep k r)
  | _, _, .dI h r => .dI (k _ _ h trivial) (RepI.keep k r)
  | _, _, .dP h r => .dP (k _ _ h trivial) (RepP.keep k r)
  | _, _, .obj h s => .obj (k _ _ h s) s
  | _, _, .clo h c r => .clo (k _ _ h trivial) (k _ _ c trivial) (r.keep k)
  | _, _, .ref a => .ref a
theorem RepL.keep (k : Keep H H') : ∀ {ds : List D} {vs : List V}, RepL K H ds vs → RepL K H' ds vs
  | _, _, .nil => .nil
  | _, _, .cons r t => .cons (Rep.keep k r) (RepL.keep k t)
theorem RepI.keep (k : Keep H H') : ∀ {ds : List (Int × D)} {vs : List (Key × V)}, RepI K H ds vs → RepI K H' ds vs
  | _, _, .nil => .nil
  | _, _, .cons r t => .cons (Rep.keep k r) (RepI.keep k t)
theorem RepP.keep (k : Keep H H') : ∀ {ds : List ((Int × Int) × D)} {vs : List (List Key × V)}, RepP K H ds vs → RepP K H' ds vs
  | _, _, .nil => .nil
  | _, _, .cons r t => .cons (Rep.keep k r) (RepP.keep k t)
end
theorem RepL.length : ∀ {ds : List D} {vs : List V}, RepL K H ds vs → ds.length = vs.length
  | _, _, .nil => rfl
  | _, _, .cons _ t => by rw [List.length_cons, List.length_cons, RepL.length t]
theorem RepI.length : ∀ {ds : List (Int × D)} {vs : List (Key × V)}, RepI K H ds vs → ds.length = vs.length
  | _, _, .nil => rfl
  | _, _, .cons _ t => by rw [List.length_cons, List.length_cons, RepI.length t]
theorem RepP.length : ∀ {ds : List ((Int × Int) × D)} {vs : List (List Key × V)}, RepP K H ds vs → ds.length = vs.length
  | _, _, .nil => rfl
  | _, _, .cons _ t => by rw [List.length_cons, List.length_cons, RepP.length t]
theorem RepL.get : ∀ {ds : List D} {vs : List V} {i : Nat} {d : D}, RepL K H ds vs → ds[i]? = some d → ∃ v, vs[i]? = some v ∧ Rep K H d v
  | _, _, _, _, .nil, e => by simp at e
  | _, _, 0, _, .cons r _, e => by simp at e; subst e; exact ⟨_, rfl, r⟩
  | _, _, i + 1, d, .cons _ t, e => by
    obtain ⟨u, h1, h2⟩ := RepL.get (i := i) (d := d) t (by simpa using e)
    exact ⟨u, by simpa using h1, h2⟩
theorem RepL.app : ∀ {ds es : List D} {vs ws : List V}, RepL K H ds vs → RepL K H es ws → RepL K H (ds ++ es) (vs ++ ws)
  | _, _, _, _, .nil, s => s
  | _, _, _, _, .cons r t, s => .cons r (RepL.app t s)
theorem RepL.set {d : D} {v : V} (r : Rep K H d v) : ∀ {ds : List D} {vs : List V} (i : Nat), RepL K H ds vs → RepL K H (ds.set i d) (vs.set i v)
  | _, _, _, .nil => .nil
  | _, _, 0, .cons _ t => .cons r t
  | _, _, i + 1, .cons q t => .cons q (RepL.set r i t)
theorem RepL.take : ∀ {ds : List D} {vs : List V} (n : Nat), RepL K H ds vs → RepL K H (ds.take n) (vs.take n)
  | _, _, 0, _ => .nil
  | _, _, _ + 1, .nil => .nil
  | _, _, n + 1, .cons r t => .cons r (RepL.take n t)
theorem RepL.drop : ∀ {ds : List D} {vs : List V} (n : Nat), RepL K H ds vs → RepL K H (ds.drop n) (vs.drop n)
  | _, _, 0, r => r
  | _, _, _ + 1, .nil => .nil
  | _, _, n + 1, .cons r t => RepL.drop n t
theorem RepL.dropLast {ds : List D} {vs : List V} (r : RepL K H ds vs) : RepL K H ds.dropLast vs.dropLast := by
  rw [List.dropLast_eq_take, List.dropLast_eq_take, r.length]
  exact r.take _
theorem RepL.ints : ∀ {ns : List Int} {vs : List V}, RepL K H (ns.map D.int) vs → vs = ns.map V.int
  | [], _, h => by cases h; rfl
  | n :: ns, _, h => by
    cases h with
    | cons r t => cases r; rw [RepL.ints t]; rfl
theorem RepL.bls : ∀ {ns : List Bool} {vs : List V}, RepL K H (ns.map D.bl) vs → vs = ns.map V.bl
  | [], _, h => by cases h; rfl
  | n :: ns, _, h => by
    cases h with
    | cons r t => cases r; rw [RepL.bls t]; rfl
theorem repL_ints : ∀ ns : List Int, RepL K H (ns.map D.int) (ns.map V.int)
  | [] => .nil
  | n :: ns => .cons (.int n) (repL_ints ns)
theorem Rep.tupI {ds : List D} {v : V} (h : Rep K H (.tup ds) v) : ∃ a vs, v = .ref a ∧ H a = some (.tup vs) ∧ RepL K H ds vs := by
  cases h with
  | tup h r => exact ⟨_, _, rfl, h, r⟩
theorem Rep.lstI {ds : List D} {v : V} (h : Rep K H (.lst ds) v) : ∃ a vs, v = .ref a ∧ FrL K H a vs ∧ RepL K H ds vs := by
  cases h with
  | lst h r => exact ⟨_, _, rfl, h, r⟩
theorem Rep.dII {ds : List (Int × D)} {v : V} (h : Rep K H (.dI ds) v) : ∃ a o vs, v = .ref a ∧ H a = some (.frz o (.dK vs)) ∧ RepI K H ds vs := by
  cases h with
  | dI h r => exact ⟨_, _, _, rfl, h, r⟩
theorem Rep.dPI {ds : List ((Int × Int) × D)} {v : V} (h : Rep K H (.dP ds) v) : ∃ a o vs, v = .ref a ∧ H a = some (.frz o (.dT vs)) ∧ RepP K H ds vs := by
  cases h with
  | dP h r => exact ⟨_, _, _, rfl, h, r⟩
end

/-! ### cells: what may be written -/
abbrev Mem := Addr → Option D
def CellOk (K : PySem.W.Frag) (H : Hp) (p : Addr) : D → Prop
  | .lst ds => ∃ vs, H p = some (.lst vs) ∧ RepL K H ds vs
  | .dI kvs => ∃ ws, H p = some (.dK ws) ∧ RepI K H kvs ws
  | .dP kvs => ∃ ws, H p = some (.dT ws) ∧ RepP K H kvs ws
  | .tab nm => NdefX.TabN H p nm
  | _ => False
def MOk (K : PySem.W.Frag) (H : Hp) (m : Mem) : Prop := ∀ p c, m p = some c → CellOk K H p c
def updM (m : Mem) (p : Addr) (c : D) : Mem := fun b => if b = p then some c else m b
def delM (m : Mem) (p : Addr) : Mem := fun b => if b = p then none else m b
def SubM (m m' : Mem) : Prop := ∀ p c, m p = some c → m' p = some c
theorem updM_same {m : Mem} {p : Addr} {c : D} : updM m p c p = some c := if_pos rfl
theorem updM_ne {m : Mem} {p q : Addr} {c : D} (h : q ≠ p) : updM m p c q = m q := if_neg h
theorem updM_updM {m : Mem} {p : Addr} {c c' : D} : updM (updM m p c) p c' = updM m p c' := by
  funext b; unfold updM; split <;> rfl
theorem delM_same {m : Mem} {p : Addr} : delM m p p = none := if_pos rfl
theorem delM_ne {m : Mem} {p q : Addr} (h : q ≠ p) : delM m p q = m q := if_neg h
theorem delM_updM {m : Mem} {p : Addr} {c : D} (h : m p = none) : delM (updM m p c) p = m := by
  funext b; unfold delM updM; split
  · rename_i e; rw [e, h]
  · rfl
theorem SubM.refl (m : Mem) : SubM m m := fun _ _ h => h
theorem SubM.trans {a b c : Mem} (x : SubM a b) (y : SubM b c) : SubM a c := fun p d h => y p d (x p d h)
theorem SubM.upd {m m' : Mem} {p : Addr} {c : D} (h : m p = none) (s : SubM m m') : SubM m (updM m' p c) := fun q d e => by
  rw [updM_ne (fun z => by rw [z, h] at e; cases e)]; exact s q d e
theorem SubM.new {m : Mem} {p : Addr} {c : D} (h : m p = none) : SubM m (updM m p c) := (SubM.refl m).upd h
theorem SubM.none {m m' : Mem} (s : SubM m m') {p : Addr} (h : m' p = none) : m p = none := by
  cases e : m p with
  | none => rfl
  | some c => rw [s p c e] at h; cases h
section
variable {K : PySem.W.Frag} {H H' : Hp} {m m' : Mem} {p : Addr} {c c' : D}
theorem CellOk.at_ (h : CellOk K H p c) : ∃ o, H p = some o ∧ ¬ Stable o ∧ ((∀ nm, c ≠ .tab nm) → Mut (some o)) := by
  cases c <;> first
    | exact (show False from h).elim
    | (obtain ⟨w, h, _⟩ := h; exact ⟨_, h, id, fun _ => trivial⟩)
    | (obtain ⟨w, h, _⟩ := h; exact ⟨_, h, id, fun z => absurd rfl (z _)⟩)
theorem CellOk.keep (k : Keep H H') (e : H' p = H p) (h : CellOk K H p c) : CellOk K H' p c := by
  cases c <;> first
    | exact (show False from h).elim
    | (obtain ⟨w, h, r⟩ := h; exact ⟨w, e.trans h, r.keep k⟩)
    | (obtain ⟨w, h, t, r⟩ := h; exact ⟨w, e.trans h, t, fun pos cv hc => by
        obtain ⟨c, e1, e2⟩ := r pos cv hc
        exact ⟨c, e1, k _ _ e2 trivial⟩⟩)
theorem MOk.sub (h : MOk K H m) (s : SubM m' m) : MOk K H m' := fun q d e => h q d (s q d e)
theorem MOk.none_of (h : MOk K H m) (hp : H p = none) : m p = none := by
  cases e : m p with
  | none => rfl
  | some c => obtain ⟨o, h1, _⟩ := (h p c e).at_; rw [hp] at h1; cases h1
theorem MOk.keep (h : MOk K H m) (k : Keep H H') (e : ∀ b o, H b = some o → ¬ Stable o → H' b = some o) : MOk K H' m := fun q d hq => by
  obtain ⟨o, h1, h2, _⟩ := (h q d hq).at_
  exact (h q d hq).keep k ((e q o h1 h2).trans h1.symm)
/-- something new -/
theorem MOk.fresh {o : HO} (h : MOk K H m) (hp : H p = none) : MOk K (upd H p o) m :=
  h.keep (Keep.fresh hp) fun b u e _ => by rw [upd_ne (ne_of_none e hp)]; exact e
/-- a new cell -/
theorem MOk.cell {o : HO} (h : MOk K H m) (hp : H p = none) (hc : CellOk K (upd H p o) p c) : MOk K (upd H p o) (updM m p c) := fun q d e => by
  by_cases hq : q = p
  · subst hq; rw [updM_same] at e; cases e; exact hc
  · rw [updM_ne hq] at e; exact h.fresh hp q d e
/-- a cell written -/
theorem MOk.put {o : HO} (h : MOk K H m) (hp : m p = some c) (hc : CellOk K (upd H p o) p c') : MOk K (upd H p o) (updM m p c') := fun q d e => by
  obtain ⟨u, h1, h2, _⟩ := (h p c hp).at_
  by_cases hq : q = p
  · subst hq; rw [updM_same] at e; cases e; exact hc
  · rw [updM_ne hq] at e
    exact (h q d e).keep (Keep.over h1 h2) (upd_ne hq)
/-- a cell dropped, whatever is written there -/
theorem MOk.drop {o : HO} (h : MOk K H m) (hp : m p = some c) : MOk K (upd H p o) (delM m p) := fun q d e => by
  obtain ⟨u, h1, h2, _⟩ := (h p c hp).at_
  by_cases hq : q = p
  · subst hq; rw [delM_same] at e; cases e
  · rw [delM_ne hq] at e
    exact (h q d e).keep (Keep.over h1 h2) (upd_ne hq)
end

/-! ### slots -/
abbrev Sl := List (Option D)
inductive SOk (K : PySem.W.Frag) (H : Hp) : L2.St → Sl → Prop
  | nil : SOk K H [] []
  | no {w : Option V} {σ : L2.St} {δ : Sl} : SOk K H σ δ → SOk K H (w :: σ) (none :: δ)
  | is {v : V} {d : D} {σ : L2.St} {δ : Sl} : Rep K H d v → SOk K H σ δ → SOk K H (some v :: σ) (some d :: δ)
section
variable {K : PySem.W.Frag} {H H' : Hp}
theorem SOk.keep (k : Keep H H') : ∀ {σ : L2.St} {δ : Sl}, SOk K H σ δ → SOk K H' σ δ
  | _, _, .nil => .nil
  | _, _, .no t => .no (SOk.keep k t)
  | _, _, .is r t => .is (r.keep k) (SOk.keep k t)
theorem SOk.get : ∀ {σ : L2.St} {δ : Sl} {i : Nat} {d : D}, SOk K H σ δ → δ[i]? = some (some d) → ∃ v, σ[i]? = some (some v) ∧ Rep K H d v
  | _, _, _, _, .nil, e => by simp at e
  | _, _, 0, _, .no _, e => by simp at e
  | _, _, 0, _, .is r _, e => by simp at e; subst e; exact ⟨_, rfl, r⟩
  | _, _, i + 1, _, .no t, e => by
    obtain ⟨v, h1, h2⟩ := SOk.get (i := i) t (by simpa using e)
    exact ⟨v, by simpa using h1, h2⟩
  | _, _, i + 1, _, .is _ t, e => by
    obtain ⟨v, h1, h2⟩ := SOk.get (i := i) t (by simpa using e)
    exact ⟨v, by simpa using h1, h2⟩
theorem SOk.set {d : D} {v : V} (r : Rep K H d v) : ∀ {σ : L2.St} {δ : Sl} (i : Nat), SOk K H σ δ → SOk K H (σ.set i (some v)) (δ.set i (some d))
  | _, _, _, .nil => .nil
  | _, _, 0, .no t => .is r t
  | _, _, 0, .is _ t => .is r t
  | _, _, i + 1, .no t => .no (SOk.set r i t)
  | _, _, i + 1, .is q t => .is q (SOk.set r i t)
theorem SOk.unset : ∀ {σ : L2.St} {δ : Sl} (i : Nat), SOk K H σ δ → SOk K H (σ.set i none) (δ.set i none)
  | _, _, _, .nil => .nil
  | _, _, 0, .no t => .no t
  | _, _, 0, .is _ t => .no t
  | _, _, i + 1, .no t => .no (SOk.unset i t)
  | _, _, i + 1, .is q t => .is q (SOk.unset i t)
def wipeD (δ : Sl) : List Nat → Sl
  | [] => δ
  | v :: vs => (wipeD δ vs).set v none
theorem SOk.wipe {σ : L2.St} {δ : Sl} (h : SOk K H σ δ) : ∀ vs : List Nat, SOk K H (L2.wipe σ vs) (wipeD δ vs)
  | [] => h
  | v :: vs => (SOk.wipe h vs).unset v
theorem sOk_nones : ∀ n : Nat, SOk K H (List.replicate n none) (List.replicate n none)
  | 0 => .nil
  | n + 1 => .no (sOk_nones n)
def startD (N : List Str) (ds : List D) : Sl := ds.map some ++ List.replicate (N.length - ds.length) none
theorem SOk.app : ∀ {ds : List D} {vs : List V} {σ : L2.St} {δ : Sl}, RepL K H ds vs → SOk K H σ δ → SOk K H (vs.map some ++ σ) (ds.map some ++ δ)
  | _, _, _, _, .nil, h => h
  | _, _, _, _, .cons r t, h => .is r (SOk.app t h)
theorem sOk_start {N : List Str} {ds : List D} {vs : List V} (r : RepL K H ds vs) : SOk K H (L2.start N vs) (startD N ds) := by
  unfold L2.start startD
  rw [r.length]
  exact SOk.app r (sOk_nones _)
theorem wipe_set_comm (σ : L2.St) (i : Nat) (x : Option V) : ∀ vs : List Nat, i ∈ vs → L2.wipe (σ.set i x) vs = L2.wipe σ vs
  | [], h => by cases h
  | v :: vs, h => by
    have key : ∀ us : List Nat, (L2.wipe (σ.set i x) us).set i none = (L2.wipe σ us).set i none := by
      intro us
      induction us with
      | nil => show (σ.set i x).set i none = σ.set i none; rw [List.set_set]
      | cons u us ih =>
        show ((L2.wipe (σ.set i x) us).set u none).set i none = ((L2.wipe σ us).set u none).set i none
        by_cases hu : u = i
        · subst hu; rw [List.set_set, List.set_set, ih]
        · rw [List.set_comm _ _ hu, ih, List.set_comm _ _ (Ne.symm hu)]
    show (L2.wipe (σ.set i x) vs).set v none = (L2.wipe σ vs).set v none
    rcases List.mem_cons.mp h with e | h
    · subst e; exact key vs
    · rw [wipe_set_comm σ i x vs h]
end

structure Good (K : PySem.W.Frag) (H : Hp) (m : Mem) (σ : L2.St) (δ : Sl) : Prop where
  mem : MOk K H m
  sl : SOk K H σ δ
theorem Good.next {K : PySem.W.Frag} {H H' : Hp} {m m' : Mem} {σ : L2.St} {δ : Sl} (g : Good K H m σ δ) (k : Keep H H') (h : MOk K H' m') : Good K H' m' σ δ := ⟨h, g.sl.keep k⟩

/-- what a reference stands for -/
def look (m : Mem) : D → D
  | .ref p => (m p).getD (.ref p)
  | d => d
end MW

end
section
set_option Elab.async false
set_option linter.all false
set_option maxRecDepth 100000
/-! MwJudge: the lowered judgements over the layer's, their core rules: names, blocks, if, while, for, targets, calls of defs. -/
namespace MW
open PySem PySem.Spec PyProof.Rows L2

/-! ### the layer's judgements weaken -/
section
variable {X : Cx} {e : Expr} {es : List Expr} {st : Stmt} {sts : List Stmt} {tg it : Expr}
theorem pe_imp {t t' : TE} (h : PE X e t) (i : ∀ σ H Q, t' σ H Q → t σ H Q) : PE X e t' := ⟨fun pins s σ H Q I q => h.run pins s σ H Q I (i σ H Q q)⟩
theorem pt_imp {t t' : TT} (h : PT X e t) (i : ∀ σ H Q, t' σ H Q → t σ H Q) : PT X e t' := ⟨fun pins s σ H Q I q => h.run pins s σ H Q I (i σ H Q q)⟩
theorem pa_imp {t t' : TA} (h : PA X es t) (i : ∀ σ H Q, t' σ H Q → t σ H Q) : PA X es t' := ⟨fun pos pins s σ H Q I q => h.run pos pins s σ H Q I (i σ H Q q)⟩
theorem ps_imp {t t' : TS} (h : PS X st t) (i : ∀ D σ H, t' D σ H → t D σ H) : PS X st t' := ⟨fun pins s σ H D I q => h.run pins s σ H D I (i D σ H q)⟩
theorem pss_imp {t t' : TS} (h : PSs X sts t) (i : ∀ D σ H, t' D σ H → t D σ H) : PSs X sts t' := ⟨fun pins s σ H D I q => h.run pins s σ H D I (i D σ H q)⟩
theorem pg_imp {g g' : TG} (h : PG X tg g) (i : ∀ v σ H Q, g' v σ H Q → g v σ H Q) : PG X tg g' := ⟨fun pins s σ H v u Q I r q => h.run pins s σ H v u Q I r (i v σ H Q q)⟩
theorem pi_imp {w w' : TI} (h : PI X tg it w) (i : ∀ σ H R, w' σ H R → w σ H R) : PI X tg it w' := ⟨fun pins s σ H R I q => h.run pins s σ H R I (i σ H R q)⟩
end

/-! ### lowering -/
abbrev TD := Sl → Mem → (D → Mem → Prop) → Prop
abbrev TDT := Sl → Mem → (Bool → Mem → Prop) → Prop
abbrev TDA := Sl → Mem → (List D → Mem → Prop) → Prop
abbrev TDI := Sl → Mem → (List D → Mem → Prop) → Prop
abbrev TDG := D → Sl → Mem → (Sl → Mem → Prop) → Prop
abbrev TDGs := List D → Sl → Mem → (Sl → Mem → Prop) → Prop
structure EndsD where
  nx : Sl → Mem → Prop
  rt : D → Mem → Prop
  bk : Sl → Mem → Prop := fun _ _ => False
  ct : Sl → Mem → Prop := fun _ _ => False
abbrev TDS := EndsD → Sl → Mem → Prop
/-- what follows an expression -/
def KontE (K : PySem.W.Frag) (H : Hp) (σ : L2.St) (δ : Sl) (Kd : D → Mem → Prop) (Q : VK) : Prop := ∀ v H' d m', Keep H H' → Good K H' m' σ δ → Rep K H' d v → Kd d m' → Q v H'
def KontT (K : PySem.W.Frag) (H : Hp) (σ : L2.St) (δ : Sl) (Kd : Bool → Mem → Prop) (Q : Bool → Hp → Prop) : Prop := ∀ b H' m', Keep H H' → Good K H' m' σ δ → Kd b m' → Q b H'
def KontA (K : PySem.W.Frag) (H : Hp) (σ : L2.St) (δ : Sl) (Kd : List D → Mem → Prop) (Q : List V → Hp → Prop) : Prop := ∀ vs H' ds m', Keep H H' → Good K H' m' σ δ → RepL K H' ds vs → Kd ds m' → Q vs H'
def KontG (K : PySem.W.Frag) (vs : List Nat) (H : Hp) (σ : L2.St) (Kd : Sl → Mem → Prop) (Q : L2.St → Hp → Prop) : Prop := ∀ σ' H' δ' m', Keep H H' → Good K H' m' σ' δ' → L2.wipe σ' vs = L2.wipe σ vs → Kd δ' m' → Q σ' H'
structure EndsR (K : PySem.W.Frag) (H : Hp) (DD : EndsD) (D : Ends) : Prop where
  nx : ∀ σ' H' δ' m', Keep H H' → Good K H' m' σ' δ' → DD.nx δ' m' → D.nx σ' H'
  rt : ∀ v H' d m', Keep H H' → MOk K H' m' → Rep K H' d v → DD.rt d m' → D.rt v H'
  bk : ∀ σ' H' δ' m', Keep H H' → Good K H' m' σ' δ' → DD.bk δ' m' → D.bk σ' H'
  ct : ∀ σ' H' δ' m', Keep H H' → Good K H' m' σ' δ' → DD.ct δ' m' → D.ct σ' H'
/-- an iterator that yields these, whatever new comes -/
structure WalkD (K : PySem.W.Frag) (J : It) (xs : List D) (H0 : Hp) : Prop where
  goes : ∀ i H, Keep H0 H → i < xs.length → J.go i H
  stops : ∀ H, Keep H0 H → J.stop xs.length H
  yields : ∀ i H x H' d, Keep H0 H → J.yld i H x H' → xs[i]? = some d → Keep H H' ∧ (∀ m, MOk K H m → MOk K H' m) ∧ Rep K H' d x
def low (K : PySem.W.Frag) (T : TD) : TE := fun σ H Q => ∃ δ m Kd, Good K H m σ δ ∧ T δ m Kd ∧ KontE K H σ δ Kd Q
def lowT (K : PySem.W.Frag) (T : TDT) : TT := fun σ H Q => ∃ δ m Kd, Good K H m σ δ ∧ T δ m Kd ∧ KontT K H σ δ Kd Q
def lowA (K : PySem.W.Frag) (T : TDA) : TA := fun σ H Q => ∃ δ m Kd, Good K H m σ δ ∧ T δ m Kd ∧ KontA K H σ δ Kd Q
def lowG (K : PySem.W.Frag) (vs : List Nat) (G : TDG) : TG := fun v σ H Q => ∃ d δ m Kd, Good K H m σ δ ∧ Rep K H d v ∧ G d δ m Kd ∧ KontG K vs H σ Kd Q
def lowGs (K : PySem.W.Frag) (vs : List Nat) (G : TDGs) : TGs := fun us σ H Q => ∃ ds δ m Kd, Good K H m σ δ ∧ RepL K H ds us ∧ G ds δ m Kd ∧ KontG K vs H σ Kd Q
def lowS (K : PySem.W.Frag) (T : TDS) : TS := fun D σ H => ∃ δ m DD, Good K H m σ δ ∧ T DD δ m ∧ EndsR K H DD D
def lowI (K : PySem.W.Frag) (T : TDI) : TI := fun σ H R => ∃ δ m Rd, Good K H m σ δ ∧ T δ m Rd ∧ ∀ H' xs m' J, Keep H H' → Good K H' m' σ δ → WalkD K J xs H' → Rd xs m' → R J H'
abbrev QE (X : Cx) (e : Expr) (T : TD) : Prop := PE X e (low X.K T)
abbrev QT (X : Cx) (e : Expr) (T : TDT) : Prop := PT X e (lowT X.K T)
abbrev QA (X : Cx) (es : List Expr) (T : TDA) : Prop := PA X es (lowA X.K T)
abbrev QG (X : Cx) (vs : List Nat) (e : Expr) (T : TDG) : Prop := PG X e (lowG X.K vs T)
abbrev QGs (X : Cx) (vs : List Nat) (e : List Expr) (T : TDGs) : Prop := PGs X e (lowGs X.K vs T)
abbrev QS (X : Cx) (st : Stmt) (T : TDS) : Prop := PS X st (lowS X.K T)
abbrev QSs (X : Cx) (st : List Stmt) (T : TDS) : Prop := PSs X st (lowS X.K T)
abbrev QI (X : Cx) (tg it : Expr) (T : TDI) : Prop := PI X tg it (lowI X.K T)

section
variable {K : PySem.W.Frag} {H H' : Hp} {σ : L2.St} {δ : Sl}
theorem KontE.keep {Kd : D → Mem → Prop} {Q : VK} (k : Keep H H') (q : KontE K H σ δ Kd Q) : KontE K H' σ δ Kd Q := fun v H2 d m' k2 g r h => q v H2 d m' (k.trans k2) g r h
theorem KontT.keep {Kd : Bool → Mem → Prop} {Q : Bool → Hp → Prop} (k : Keep H H') (q : KontT K H σ δ Kd Q) : KontT K H' σ δ Kd Q := fun v H2 m' k2 g h => q v H2 m' (k.trans k2) g h
theorem KontA.keep {Kd : List D → Mem → Prop} {Q : List V → Hp → Prop} (k : Keep H H') (q : KontA K H σ δ Kd Q) : KontA K H' σ δ Kd Q := fun v H2 d m' k2 g r h => q v H2 d m' (k.trans k2) g r h
theorem EndsR.keep {DD : EndsD} {D : Ends} (k : Keep H H') (E : EndsR K H DD D) : EndsR K H' DD D :=
  ⟨fun σ' H2 δ' m' k2 => E.nx σ' H2 δ' m' (k.trans k2), fun v H2 d m' k2 => E.rt v H2 d m' (k.trans k2), fun σ' H2 δ' m' k2 => E.bk σ' H2 δ' m' (k.trans k2), fun σ' H2 δ' m' k2 => E.ct σ' H2 δ' m' (k.trans k2)⟩
end

/-! ### values -/
section
variable {X : Cx} {pos : Pos} {a b c e : Expr} {es : List Expr}
def tV (i : Nat) : TD := fun δ m Kd => ∃ d, δ[i]? = some (some d) ∧ Kd d m
def tCo (c : D) : TD := fun _ m Kd => Kd c m
theorem q_var {i : Nat} {x : Str} (hN : X.N[i]? = some x) (hv : Vis X.env.scope x) (hd : (x == ("__debug__" : Str)) = false := by decide) (hcd : (x == ("__classdict__" : Str)) = false := by decide) : QE X (.Name x pos) (tV i) :=
  pe_imp (pe_var hN hv hd hcd) fun σ H Q ⟨δ, m, Kd, g, ⟨d, hd, h⟩, q⟩ => by
    obtain ⟨v, e, r⟩ := g.sl.get hd
    exact ⟨v, e, q v H d m (Keep.refl H) g r h⟩
/-- the name in slot i -/
theorem qv (i : Nat) {x : Str} (hN : X.N[i]? = some x := by rfl) (hv : Vis X.env.scope x := by first | exact Or.inl rfl | exact Or.inr (Or.inl rfl) | exact Or.inr (Or.inr rfl)) (hd : (x == ("__debug__" : Str)) = false := by decide)
    (hcd : (x == ("__classdict__" : Str)) = false := by decide) : QE X (.Name x pos) (tV i) := q_var hN hv hd hcd
theorem co_low {K : PySem.W.Frag} {v : V} {d : D} {σ : L2.St} {H : Hp} {Q : VK} (r : ∀ H, Rep K H d v) (h : low K (tCo d) σ H Q) : tC v σ H Q := by
  obtain ⟨δ, m, Kd, g, h, q⟩ := h
  exact q v H d m (Keep.refl H) g (r H) h
theorem q_int {i : Int} {j : Nat} : QE X (.Constant (.int i) j pos) (tCo (.int i)) := pe_imp pe_int fun _ _ _ h => co_low (fun _ => .int _) h
theorem q_bl {i : Bool} {j : Nat} : QE X (.Constant (.bool i) j pos) (tCo (.bl i)) := pe_imp pe_bl fun _ _ _ h => co_low (fun _ => .bl _) h
theorem q_non {j : Nat} : QE X (.Constant .none j pos) (tCo .non) := pe_imp pe_non fun _ _ _ h => co_low (fun _ => .non) h
theorem q_str {x : Str} {j : Nat} : QE X (.Constant (.str x) j pos) (tCo (.str x)) := pe_imp pe_str fun _ _ _ h => co_low (fun _ => .str _) h
theorem q_glob {x : Str} {v : V} {u : Value} {d : D} (hg : Gl X x) (hm : X.mg x = some u) (r : RelV v u) (rd : ∀ H, Rep X.K H d v) (hd : (x == ("__debug__" : Str)) = false := by decide) : QE X (.Name x pos) (tCo d) :=
  pe_imp (pe_glob hg hm r hd) fun _ _ _ h => co_low rd h
theorem q_gint {x : Str} {i : Int} {t : Tok} (hg : Gl X x) (hm : X.mg x = some (.int i t)) (hd : (x == ("__debug__" : Str)) = false := by decide) : QE X (.Name x pos) (tCo (.int i)) :=
  q_glob (v := .int i) hg hm ⟨t, rfl⟩ (fun _ => .int i) hd
theorem q_type {x : Str} {n : String} (hg : Gl X x) (hm : X.mg x = none) (hv : bootBuiltins x = some (.type n)) (hn : x ≠ "__name__" := by decide) (hd : (x == ("__debug__" : Str)) = false := by decide) : QE X (.Name x pos) (tCo (.ty n)) :=
  pe_imp (pe_bltn (v := .ty n) hg hm hv rfl hn hd) fun _ _ _ h => co_low (fun _ => .ty n) h

/-! ### operators by values -/
abbrev DR2 := D → D → Mem → (D → Mem → Prop) → Prop
def LiftR2 (K : PySem.W.Frag) (r : R2) (R : DR2) : Prop := ∀ (σ : L2.St) (δ : Sl) (H : Hp) (m : Mem) (x y : V) (dx dy : D) (Kd : D → Mem → Prop) (Q : VK), Good K H m σ δ → Rep K H dx x → Rep K H dy y → R dx dy m Kd → KontE K H σ δ Kd Q → r x y H Q
def tO (R : DR2) (ta tb : TD) : TD := fun δ m Kd => ta δ m fun x m1 => tb δ m1 fun y m2 => R x y m2 Kd
theorem low2 {K : PySem.W.Frag} {r : R2} {R : DR2} {ta tb : TD} (l : LiftR2 K r R) {σ : L2.St} {H : Hp} {Q : VK} (h : low K (tO R ta tb) σ H Q) : low K ta σ H fun x H1 => low K tb σ H1 fun y H2 => r x y H2 Q := by
  obtain ⟨δ, m, Kd, g, h, q⟩ := h
  refine ⟨δ, m, _, g, h, fun v H1 d m1 k1 g1 r1 h1 => ⟨δ, m1, _, g1, h1, fun w H2 f m2 k2 g2 r2 h2 => ?_⟩⟩
  exact l σ δ H2 m2 v w d f Kd Q g2 (r1.keep k2) r2 h2 (q.keep (k1.trans k2))
theorem q_op {op : Operator} {r : R2} {R : DR2} {ta tb : TD} (ho : OpR X (binaryOp op) r) (l : LiftR2 X.K r R) (ha : QE X a ta) (hb : QE X b tb) : QE X (.BinOp a op b pos) (tO R ta tb) :=
  pe_imp (pe_op ho ha hb) fun _ _ _ h => low2 l h
theorem q_cmp {op : CmpOp} {r : R2} {R : DR2} {ta tb : TD} (ho : OpR X (compareOp op) r) (l : LiftR2 X.K r R) (ha : QE X a ta) (hb : QE X b tb) (hm : behindInMarks op b = false) : QE X (.Compare a [op] [b] pos) (tO R ta tb) :=
  pe_imp (pe_cmpR ho ha hb hm) fun _ _ _ h => low2 l h
/-- a bool's value as a test -/
def tTs (t : TD) : TDT := fun δ m Kd => t δ m fun x m' => ∃ k, x = .bl k ∧ Kd k m'
theorem low_tB {K : PySem.W.Frag} {t : TD} {σ : L2.St} {H : Hp} {Q : Bool → Hp → Prop} (h : lowT K (tTs t) σ H Q) : tB (low K t) σ H Q := by
  obtain ⟨δ, m, Kd, g, h, q⟩ := h
  refine ⟨δ, m, _, g, h, fun v H1 d m1 k1 g1 r1 h1 => ?_⟩
  obtain ⟨k, rfl, h1⟩ := h1
  cases r1
  exact ⟨k, rfl, q k H1 m1 k1 g1 h1⟩
theorem qt_val {t : TD} (h : QE X e t) (he : ∀ whole, isTrue e X.env whole = (do let v ← whole; standAt e.pos; holding [v] (truthy v)) := by intro _; rfl) : QT X e (tTs t) :=
  pt_imp (pt_val h he) fun _ _ _ h => low_tB h
theorem qt_cmp {op : CmpOp} {r : R2} {R : DR2} {ta tb : TD} (ho : OpR X (compareOp op) r) (l : LiftR2 X.K r R) (ha : QE X a ta) (hb : QE X b tb) (hm : behindInMarks op b = false) : QT X (.Compare a [op] [b] pos) (tTs (tO R ta tb)) := by
  refine pt_imp (pt_cmpR ho ha hb hm) fun σ H Q h => ?_
  have h2 := low_tB h
  show (tOp r (low X.K ta) (low X.K tb)) σ H _
  exact low2 l h2
/-! ### chains of two comparisons -/
def tCh (R R' : DR2) (ta tb tc : TD) : TD := fun δ m Kd => ta δ m fun x m1 => tb δ m1 fun y m2 => R x y m2 fun z m3 => ∃ k, z = .bl k ∧ ((k = true → tc δ m3 fun w m4 => R' y w m4 Kd) ∧ (k = false → Kd (.bl false) m3))
theorem lowCh {K : PySem.W.Frag} {r r' : R2} {R R' : DR2} {ta tb tc : TD} (l : LiftR2 K r R) (l' : LiftR2 K r' R') {σ : L2.St} {H : Hp} {Q : VK} (h : low K (tCh R R' ta tb tc) σ H Q) : tChain r r' (low K ta) (low K tb) (low K tc) σ H Q := by
  obtain ⟨δ, m, Kd, g, h, q⟩ := h
  refine ⟨δ, m, _, g, h, fun x H1 dx m1 k1 g1 r1 h1 => ⟨δ, m1, _, g1, h1, fun y H2 dy m2 k2 g2 r2 h2 => ?_⟩⟩
  refine l σ δ H2 m2 x y dx dy _ _ g2 (r1.keep k2) r2 h2 fun z H3 dz m3 k3 g3 r3 h3 => ?_
  obtain ⟨k, rfl, ht, hf⟩ := h3
  cases r3
  refine ⟨k, rfl, ?_⟩
  have kk : Keep H H3 := (k1.trans k2).trans k3
  cases k with
  | true =>
    rw [if_pos rfl]
    refine ⟨δ, m3, _, g3, ht rfl, fun w H4 dw m4 k4 g4 r4 h4 => ?_⟩
    exact l' σ δ H4 m4 y w dy dw Kd Q g4 (r2.keep (k3.trans k4)) r4 h4 (q.keep (kk.trans k4))
  | false =>
    rw [if_neg Bool.false_ne_true]
    exact q _ H3 _ m3 kk g3 (.bl false) (hf rfl)
theorem q_chain {op op' : CmpOp} {r r' : R2} {R R' : DR2} {ta tb tc : TD} (ho : OpR X (compareOp op) r) (ho' : OpR X (compareOp op') r') (l : LiftR2 X.K r R) (l' : LiftR2 X.K r' R') (ha : QE X a ta) (hb : QE X b tb) (hc : QE X c tc) (hm : lastMarks [op, op'] [b, c] = false := by with_unfolding_all rfl) :
    QE X (.Compare a [op, op'] [b, c] pos) (tCh R R' ta tb tc) := pe_imp (pe_chain ho ho' ha hb hc hm) fun _ _ _ h => lowCh l l' h
theorem qt_chain {op op' : CmpOp} {r r' : R2} {R R' : DR2} {ta tb tc : TD} (ho : OpR X (compareOp op) r) (ho' : OpR X (compareOp op') r') (l : LiftR2 X.K r R) (l' : LiftR2 X.K r' R') (ha : QE X a ta) (hb : QE X b tb) (hc : QE X c tc) (hm : lastMarks [op, op'] [b, c] = false := by with_unfolding_all rfl) :
    QT X (.Compare a [op, op'] [b, c] pos) (tTs (tCh R R' ta tb tc)) := by
  refine pt_imp (pt_chain ho ho' ha hb hc hm) fun σ H Q h => ?_
  have h2 := low_tB h
  show (tChain r r' (low X.K ta) (low X.K tb) (low X.K tc)) σ H _
  exact lowCh l l' h2

/-! ### and, or, not, a if t else b -/
variable {rest : List Expr}
def tAn (t u : TDT) : TDT := fun δ m Kd => t δ m fun c m1 => (c = true → u δ m1 Kd) ∧ (c = false → Kd false m1)
def tOrr (t u : TDT) : TDT := fun δ m Kd => t δ m fun c m1 => (c = true → Kd true m1) ∧ (c = false → u δ m1 Kd)
def tNo (t : TDT) : TDT := fun δ m Kd => t δ m fun c m1 => Kd (!c) m1
abbrev QW (X : Cx) (e : Expr) (T : TDT) : Prop := PW X e (lowT X.K T)
theorem pw_imp {e : Expr} {t t' : TT} (h : PW X e t) (i : ∀ σ H Q, t' σ H Q → t σ H Q) : PW X e t' := ⟨fun wh pins s σ H Q I q => h.run wh pins s σ H Q I (i σ H Q q)⟩
theorem qw_and1 {t : TDT} (ha : QT X a t) : QW X (.BoolOp .And [a] pos) t := pw_and1 ha
theorem qw_or1 {t : TDT} (ha : QT X a t) : QW X (.BoolOp .Or [a] pos) t := pw_or1 ha
theorem qw_and {t u : TDT} (ha : QT X a t) (hb : QW X (.BoolOp .And (b :: rest) pos) u) : QW X (.BoolOp .And (a :: b :: rest) pos) (tAn t u) :=
  pw_imp (pw_and ha hb) fun σ H Q ⟨δ, m, Kd, g, h, q⟩ => ⟨δ, m, _, g, h, fun c H1 m1 k1 g1 h1 => by
    cases c with
    | true => rw [if_pos rfl]; exact ⟨δ, m1, Kd, g1, h1.1 rfl, q.keep k1⟩
    | false => rw [if_neg Bool.false_ne_true]; exact q false H1 m1 k1 g1 (h1.2 rfl)⟩
theorem qw_or {t u : TDT} (ha : QT X a t) (hb : QW X (.BoolOp .Or (b :: rest) pos) u) : QW X (.BoolOp .Or (a :: b :: rest) pos) (tOrr t u) :=
  pw_imp (pw_or ha hb) fun σ H Q ⟨δ, m, Kd, g, h, q⟩ => ⟨δ, m, _, g, h, fun c H1 m1 k1 g1 h1 => by
    cases c with
    | true => rw [if_pos rfl]; exact q true H1 m1 k1 g1 (h1.1 rfl)
    | false => rw [if_neg Bool.false_ne_true]; exact ⟨δ, m1, Kd, g1, h1.2 rfl, q.keep k1⟩⟩
theorem qt_not {t : TDT} (ha : QT X a t) : QT X (.UnaryOp .Not a pos) (tNo t) :=
  pt_imp (pt_not ha) fun σ H Q ⟨δ, m, Kd, g, h, q⟩ => ⟨δ, m, _, g, h, fun c H1 m1 k1 g1 h1 => q (!c) H1 m1 k1 g1 h1⟩
def tAnV (t u : TD) : TD := fun δ m Kd => t δ m fun x m1 => ∃ c, x = .bl c ∧ (c = true → u δ m1 Kd) ∧ (c = false → Kd (.bl false) m1)
def tOrV (t u : TD) : TD := fun δ m Kd => t δ m fun x m1 => ∃ c, x = .bl c ∧ (c = true → Kd (.bl true) m1) ∧ (c = false → u δ m1 Kd)
def tNoV (t : TD) : TD := fun δ m Kd => t δ m fun x m1 => ∃ c, x = .bl c ∧ Kd (.bl (!c)) m1
theorem q_one {op} {t : TD} (h : QE X a t) : QE X (.BoolOp op [a] pos) t := pe_one h
theorem q_and {ta tb : TD} (ha : QE X a ta) (hb : QE X (.BoolOp .And (b :: rest) pos) tb) : QE X (.BoolOp .And (a :: b :: rest) pos) (tAnV ta tb) :=
  pe_imp (pe_and ha hb) fun σ H Q ⟨δ, m, Kd, g, h, q⟩ => ⟨δ, m, _, g, h, fun x H1 dx m1 k1 g1 r1 h1 => by
    obtain ⟨c, rfl, ht, hf⟩ := h1
    cases r1
    refine ⟨c, rfl, ?_⟩
    cases c with
    | true => rw [if_pos rfl]; exact ⟨δ, m1, Kd, g1, ht rfl, q.keep k1⟩
    | false => rw [if_neg Bool.false_ne_true]; exact q _ H1 _ m1 k1 g1 (.bl false) (hf rfl)⟩
theorem q_or {ta tb : TD} (ha : QE X a ta) (hb : QE X (.BoolOp .Or (b :: rest) pos) tb) : QE X (.BoolOp .Or (a :: b :: rest) pos) (tOrV ta tb) :=
  pe_imp (pe_or ha hb) fun σ H Q ⟨δ, m, Kd, g, h, q⟩ => ⟨δ, m, _, g, h, fun x H1 dx m1 k1 g1 r1 h1 => by
    obtain ⟨c, rfl, ht, hf⟩ := h1
    cases r1
    refine ⟨c, rfl, ?_⟩
    cases c with
    | true => rw [if_pos rfl]; exact q _ H1 _ m1 k1 g1 (.bl true) (ht rfl)
    | false => rw [if_neg Bool.false_ne_true]; exact ⟨δ, m1, Kd, g1, hf rfl, q.keep k1⟩⟩
theorem q_not {ta : TD} (ha : QE X a ta) : QE X (.UnaryOp .Not a pos) (tNoV ta) :=
  pe_imp (pe_not ha) fun σ H Q ⟨δ, m, Kd, g, h, q⟩ => ⟨δ, m, _, g, h, fun x H1 dx m1 k1 g1 r1 h1 => by
    obtain ⟨c, rfl, h1⟩ := h1
    cases r1
    exact ⟨c, rfl, q _ H1 _ m1 k1 g1 (.bl (!c)) h1⟩⟩
def tIfE (t : TDT) (ta tb : TD) : TD := fun δ m Kd => t δ m fun c m1 => (c = true → ta δ m1 Kd) ∧ (c = false → tb δ m1 Kd)
theorem q_ifExp {t : TDT} {ta tb : TD} (hc : QT X c t) (ha : QE X a ta) (hb : QE X b tb) : QE X (.IfExp c a b pos) (tIfE t ta tb) :=
  pe_imp (pe_ifExp hc ha hb) fun σ H Q ⟨δ, m, Kd, g, h, q⟩ => ⟨δ, m, _, g, h, fun k H1 m1 k1 g1 h1 => by
    cases k with
    | true => rw [if_pos rfl]; exact ⟨δ, m1, Kd, g1, h1.1 rfl, q.keep k1⟩
    | false => rw [if_neg Bool.false_ne_true]; exact ⟨δ, m1, Kd, g1, h1.2 rfl, q.keep k1⟩⟩

/-! ### arguments -/
def tAN : TDA := fun _ m Kd => Kd [] m
def tAC (t : TD) (u : TDA) : TDA := fun δ m Kd => t δ m fun x m1 => u δ m1 fun xs m2 => Kd (x :: xs) m2
theorem qa_nil : QA X [] tAN := pa_imp pa_nil fun σ H Q ⟨δ, m, Kd, g, h, q⟩ => q [] H [] m (Keep.refl H) g .nil h
theorem qa_cons {t : TD} {u : TDA} (ha : QE X e t) (hr : QA X es u) (hs : starEach (e :: es) X.env = (false, eval e X.env) :: starEach es X.env := by rfl) : QA X (e :: es) (tAC t u) :=
  pa_imp (pa_cons ha hr hs) fun σ H Q ⟨δ, m, Kd, g, h, q⟩ => ⟨δ, m, _, g, h, fun x H1 dx m1 k1 g1 r1 h1 => ⟨δ, m1, _, g1, h1, fun xs H2 ds m2 k2 g2 r2 h2 =>
    q (x :: xs) H2 (dx :: ds) m2 (k1.trans k2) g2 (.cons (r1.keep k2) r2) h2⟩⟩
/-- a keyword's part -/
abbrev QK (X : Cx) (kws : List Keyword) (T : TDA) : Prop := PK X kws (lowA X.K T)
theorem pk_imp {kws : List Keyword} {t t' : TA} (h : PK X kws t) (i : ∀ σ H Q, t' σ H Q → t σ H Q) : PK X kws t' := ⟨fun pos pins s σ H Q I q => h.run pos pins s σ H Q I (i σ H Q q)⟩
theorem qk_nil : QK X [] tAN := pk_imp pk_nil fun σ H Q ⟨δ, m, Kd, g, h, q⟩ => q [] H [] m (Keep.refl H) g .nil h
theorem qk_cons {nm : Option Str} {kpos : Pos} {kws : List Keyword} {t : TD} {u : TDA} (ha : QE X e t) (hr : QK X kws u) : QK X (⟨nm, e, kpos⟩ :: kws) (tAC t u) :=
  pk_imp (pk_cons ha hr) fun σ H Q ⟨δ, m, Kd, g, h, q⟩ => ⟨δ, m, _, g, h, fun x H1 dx m1 k1 g1 r1 h1 => ⟨δ, m1, _, g1, h1, fun xs H2 ds m2 k2 g2 r2 h2 =>
    q (x :: xs) H2 (dx :: ds) m2 (k1.trans k2) g2 (.cons (r1.keep k2) r2) h2⟩⟩
/-- (a, b, ..) -/
def tTu (t : TDA) : TD := fun δ m Kd => t δ m fun xs m1 => xs.length ≤ sizeLine ∧ Kd (.tup xs) m1
theorem q_tup {x1} {t : TDA} (h : QA X es t) : QE X (.Tuple es x1 pos) (tTu t) :=
  pe_imp (pe_tup h) fun σ H Q ⟨δ, m, Kd, g, h, q⟩ => ⟨δ, m, _, g, h, fun vs H1 ds m1 k1 g1 r1 h1 => ⟨by rw [← r1.length]; exact h1.1, fun p hp =>
    have kp := Keep.fresh (o := .tup vs) hp
    q (.ref p) _ (.tup ds) m1 (k1.trans kp) (g1.next kp (g1.mem.fresh hp)) (.tup upd_same (r1.keep kp)) h1.2⟩⟩
/-- [a, b, ..], to be written at -/
def tLc_ (t : TDA) : TD := fun δ m Kd => t δ m fun xs m1 => xs.length ≤ sizeLine ∧ ∀ p, m1 p = none → Kd (.ref p) (updM m1 p (.lst xs))
theorem q_lstc {t : TDA} (h : QA X es t) : QE X (.List es pos) (tLc_ t) :=
  pe_imp (pe_lst h) fun σ H Q ⟨δ, m, Kd, g, h, q⟩ => ⟨δ, m, _, g, h, fun vs H1 ds m1 k1 g1 r1 h1 => ⟨by rw [← r1.length]; exact h1.1, fun p hp =>
    have kp := Keep.fresh (o := .lst vs) hp
    q (.ref p) _ (.ref p) _ (k1.trans kp) (g1.next kp (g1.mem.cell (c := .lst ds) hp ⟨vs, upd_same, r1.keep kp⟩)) (.ref p) (h1.2 p (g1.mem.none_of hp))⟩⟩
/-- what is frozen -/
def tFrz (t : TE) : TE := fun σ H Q => t σ H fun v H1 => ∃ p u, v = .ref p ∧ H1 p = some u ∧ Mut (some u) ∧ ∀ o, Q v (upd H1 p (.frz o u))
theorem pe_frz {t : TE} (h : PE X e t) : PE X e (tFrz t) := ⟨fun pins s σ H Q I hq => thn (h.run pins s σ H _ I hq) fun v s1 ⟨x, H1, I1, r1, p, u, e, hp, mu, hk⟩ => by
  obtain ⟨od, I2⟩ := I1.lock hp mu
  exact ⟨x, _, I2, r1, hk od⟩⟩
def notTab : D → Prop
  | .tab _ => False
  | _ => True
/-- a cell's content as a value, the cell gone -/
def tSeal (t : TD) : TD := fun δ m Kd => t δ m fun d m1 => ∃ p c, d = .ref p ∧ m1 p = some c ∧ notTab c ∧ Kd c (delM m1 p)
theorem cell_frz {K : PySem.W.Frag} {H : Hp} {p : Addr} {c : D} (h : CellOk K H p c) (nt : notTab c) : ∃ u, H p = some u ∧ ¬ Stable u ∧ Mut (some u) ∧ ∀ o, Rep K (upd H p (.frz o u)) c (.ref p) := by
  cases c <;> first | exact (show False from h).elim | exact (show False from nt).elim | skip
  · obtain ⟨w, h, r⟩ := h
    exact ⟨_, h, id, trivial, fun o => .lst (.inl ⟨o, upd_same⟩) (r.keep (Keep.over h id))⟩
  · obtain ⟨w, h, r⟩ := h
    exact ⟨_, h, id, trivial, fun o => .dI upd_same (r.keep (Keep.over h id))⟩
  · obtain ⟨w, h, r⟩ := h
    exact ⟨_, h, id, trivial, fun o => .dP upd_same (r.keep (Keep.over h id))⟩
theorem q_seal {t : TD} (h : QE X e t) : QE X e (tSeal t) :=
  pe_imp (pe_frz h) fun σ H Q ⟨δ, m, Kd, g, h, q⟩ => ⟨δ, m, _, g, h, fun v H1 d m1 k1 g1 r1 ⟨p, c, e, hp, nt, h1⟩ => by
    subst e
    cases r1
    obtain ⟨u, hu, ns, mu, hr⟩ := cell_frz (g1.mem p c hp) nt
    refine ⟨p, u, rfl, hu, mu, fun o => ?_⟩
    have kp := Keep.over (o' := .frz o u) hu ns
    exact q (.ref p) _ c _ (k1.trans kp) (g1.next kp (g1.mem.drop hp)) (hr o) h1⟩
/-- [a, b, ..], a value -/
def tLi (t : TDA) : TD := fun δ m Kd => t δ m fun xs m1 => xs.length ≤ sizeLine ∧ Kd (.lst xs) m1
theorem q_lst {t : TDA} (h : QA X es t) : QE X (.List es pos) (tLi t) :=
  pe_imp (pe_frz (pe_lst h)) fun σ H Q ⟨δ, m, Kd, g, h, q⟩ => ⟨δ, m, _, g, h, fun vs H1 ds m1 k1 g1 r1 h1 => ⟨by rw [← r1.length]; exact h1.1, fun p hp => ⟨p, .lst vs, rfl, upd_same, trivial, fun o => by
    rw [upd_upd]
    have kp := Keep.fresh (o := .frz o (.lst vs)) hp
    exact q (.ref p) _ (.lst ds) m1 (k1.trans kp) (g1.next kp (g1.mem.fresh hp)) (.lst (.inl ⟨o, upd_same⟩) (r1.keep kp)) h1.2⟩⟩⟩
end
end MW

end
section
set_option Elab.async false
set_option linter.all false
set_option maxRecDepth 100000
/-! MwStmt: statements, targets, loops, the promise of a def and its call, over data. -/
namespace MW
open PySem PySem.Spec PyProof.Rows L2

section
variable {X : Cx} {pos : Pos} {e : Expr} {st : Stmt} {rest : List Stmt}
/-! ### blocks -/
def tNx : TDS := fun DD δ m => DD.nx δ m
def tSq (t u : TDS) : TDS := fun DD δ m => t { DD with nx := u DD } δ m
def tRt (t : TD) : TDS := fun DD δ m => t δ m DD.rt
def tRtN : TDS := fun DD _ m => DD.rt .non m
def tEx (t : TD) : TDS := fun DD δ m => t δ m fun _ m1 => DD.nx δ m1
def tIf (c : TDT) (t u : TDS) : TDS := fun DD δ m => c δ m fun b m1 => (b = true → t DD δ m1) ∧ (b = false → u DD δ m1)
def tBk : TDS := fun DD δ m => DD.bk δ m
def tNv : TDS := fun _ _ _ => False
theorem qs_pass : QS X (.Pass pos) tNx := ps_imp ps_pass fun D σ H ⟨δ, m, DD, g, h, E⟩ => E.nx σ H δ m (Keep.refl H) g h
theorem qss_nil : QSs X [] tNx := pss_imp pss_nil fun D σ H ⟨δ, m, DD, g, h, E⟩ => E.nx σ H δ m (Keep.refl H) g h
theorem qss_one {t : TDS} (h : QS X st t) : QSs X [st] t := pss_one h
theorem qss_cons {t u : TDS} (h1 : QS X st t) (h2 : QSs X rest u) : QSs X (st :: rest) (tSq t u) :=
  pss_imp (pss_cons h1 h2) fun D σ H ⟨δ, m, DD, g, h, E⟩ => ⟨δ, m, _, g, h, ⟨fun σ' H' δ' m' k g' q => ⟨δ', m', DD, g', q, E.keep k⟩, E.rt, E.bk, E.ct⟩⟩
theorem qs_break : QS X (.Break pos) tBk := ps_imp ps_break fun D σ H ⟨δ, m, DD, g, h, E⟩ => E.bk σ H δ m (Keep.refl H) g h
theorem qs_never : QS X st tNv := ps_imp ps_never fun D σ H ⟨_, _, _, _, h, _⟩ => h
theorem qss_never {sts : List Stmt} : QSs X sts tNv := pss_imp pss_never fun D σ H ⟨_, _, _, _, h, _⟩ => h
theorem qs_ret {t : TD} (h : QE X e t) : QS X (.Return (some e) pos) (tRt t) :=
  ps_imp (ps_ret h) fun D σ H ⟨δ, m, DD, g, h, E⟩ => ⟨δ, m, _, g, h, fun v H1 d m1 k g1 r h1 => E.rt v H1 d m1 k g1.mem r h1⟩
theorem qs_retN : QS X (.Return none pos) tRtN := ps_imp ps_retN fun D σ H ⟨δ, m, DD, g, h, E⟩ => E.rt .non H .non m (Keep.refl H) g.mem .non h
theorem qs_expr {t : TD} (h : QE X e t) (hs : swapsWith e none pos.line X.env = pure false := by rfl) : QS X (.Expr e pos) (tEx t) :=
  ps_imp (ps_expr h hs) fun D σ H ⟨δ, m, DD, g, h, E⟩ => ⟨δ, m, _, g, h, fun v H1 d m1 k g1 r h1 => E.nx σ H1 δ m1 k g1 h1⟩
theorem qs_if {c : Expr} {a b : List Stmt} {tc : TDT} {t u : TDS} (hc : QT X c tc) (ha : QSs X a t) (hb : QSs X b u) : QS X (.If c a b pos) (tIf tc t u) :=
  ps_imp (ps_if hc ha hb) fun D σ H ⟨δ, m, DD, g, h, E⟩ => ⟨δ, m, _, g, h, fun b H1 m1 k g1 h1 => by
    cases b with
    | true => rw [if_pos rfl]; exact ⟨δ, m1, DD, g1, h1.1 rfl, E.keep k⟩
    | false => rw [if_neg Bool.false_ne_true]; exact ⟨δ, m1, DD, g1, h1.2 rfl, E.keep k⟩⟩

/-! ### targets -/
def gN (i : Nat) : TDG := fun d δ m Kd => Kd (δ.set i (some d)) m
theorem qg_name {i : Nat} {x : Str} {vs : List Nat} (hN : X.N.Nodup) (hi : X.N[i]? = some x) (hx : Loc X.env.scope x) (hv : i ∈ vs := by decide) (hf : X.fn x = true ∨ X.env.scope.names.lookup x = some .local := by first | exact .inl rfl | exact .inr rfl | assumption) :
    QG X vs (.Name x pos) (gN i) :=
  pg_imp (pg_name hN hi hx hf) fun v σ H Q ⟨d, δ, m, Kd, g, r, h, q⟩ => q _ H _ m (Keep.refl H) ⟨g.mem, g.sl.set r i⟩ (wipe_set_comm σ i _ vs hv) h
def gsN : TDGs := fun ds δ m Kd => ds = [] ∧ Kd δ m
def gsC (t : TDG) (u : TDGs) : TDGs := fun ds δ m Kd => ∃ d r, ds = d :: r ∧ t d δ m fun δ' m' => u r δ' m' Kd
theorem pgs_imp {ts : List Expr} {g g' : TGs} (h : PGs X ts g) (i : ∀ v σ H Q, g' v σ H Q → g v σ H Q) : PGs X ts g' := ⟨fun pins s σ H v u Q I r q => h.run pins s σ H v u Q I r (i v σ H Q q)⟩
theorem qgs_nil {vs : List Nat} : QGs X vs [] gsN := pgs_imp pgs_nil fun us σ H Q ⟨ds, δ, m, Kd, g, r, ⟨e, h⟩, q⟩ => by
  subst e
  cases r
  exact ⟨rfl, q σ H δ m (Keep.refl H) g rfl h⟩
theorem qgs_cons {vs : List Nat} {es : List Expr} {t : TDG} {u : TDGs} (h1 : QG X vs e t) (h2 : QGs X vs es u)
    (hs : (assignEach (e :: es) X.env).map (·.2) = assign e X.env :: (assignEach es X.env).map (·.2) := by rfl) : QGs X vs (e :: es) (gsC t u) :=
  pgs_imp (pgs_cons h1 h2 hs) fun us σ H Q ⟨ds, δ, m, Kd, g, r, ⟨d, rs, e, h⟩, q⟩ => by
    subst e
    cases r with
    | cons r rr =>
      refine ⟨_, _, rfl, d, δ, m, _, g, r, h, fun σ1 H1 δ1 m1 k1 g1 w1 h1 => ⟨rs, δ1, m1, Kd, g1, rr.keep k1, h1, fun σ2 H2 δ2 m2 k2 g2 w2 h2 => q σ2 H2 δ2 m2 (k1.trans k2) g2 (w2.trans w1) h2⟩⟩
def gTu (n : Nat) (t : TDGs) : TDG := fun d δ m Kd => ∃ ds, d = .tup ds ∧ ds.length = n ∧ t ds δ m Kd
theorem qg_tup {vs : List Nat} {es : List Expr} {k n : Nat} {t : TDGs} (hc : X.calm = true) (h : QGs X vs es t) (hn : (assignEach es X.env).length = n := by rfl) (hst : (assignEach es X.env).findIdx? (·.1) = none := by rfl) :
    QG X vs (.Tuple es k pos) (gTu n t) :=
  pg_imp (pg_tup hc h hn hst) fun v σ H Q ⟨d, δ, m, Kd, g, r, ⟨ds, e, hl, h⟩, q⟩ => by
    subst e
    obtain ⟨a, us, rfl, ha, ru⟩ := r.tupI
    exact ⟨a, us, rfl, .of ha, by rw [← ru.length]; exact hl, ds, δ, m, Kd, g, ru, h, q⟩
/-! ### assignments -/
def tAs (t : TD) (g : TDG) : TDS := fun DD δ m => t δ m fun d m1 => g d δ m1 DD.nx
theorem qs_asg {vs : List Nat} {tg : Expr} {t : TD} {g : TDG} (he : QE X e t) (hg : QG X vs tg g) (hs : swapsWithSole [tg] e pos.line X.env = pure false := by rfl) (hw : swappedStores [tg] e X.env = pure none := by rfl)
    (h1 : (assignEach [tg] X.env).map (·.2) = [assign tg X.env] := by rfl) : QS X (.Assign [tg] e pos) (tAs t g) :=
  ps_imp (ps_asg he hg hs hw h1) fun D σ H ⟨δ, m, DD, gd, h, E⟩ => ⟨δ, m, _, gd, h, fun v H1 d m1 k g1 r h1 => ⟨d, δ, m1, _, g1, r, h1, fun σ2 H2 δ2 m2 k2 g2 _ h2 => E.nx σ2 H2 δ2 m2 (k.trans k2) g2 h2⟩⟩
theorem qs_set {i : Nat} {x : Str} {pos' : Pos} {t : TD} (hN : X.N.Nodup) (hi : X.N[i]? = some x) (hx : Loc X.env.scope x) (he : QE X e t) (hs : swapsWith e (some (.Name x pos')) pos.line X.env = pure false := by rfl)
    (hf : X.fn x = true ∨ X.env.scope.names.lookup x = some .local := by first | exact .inl rfl | exact .inr rfl | assumption) : QS X (.Assign [.Name x pos'] e pos) (tAs t (gN i)) :=
  ps_imp (ps_set hN hi hx he hs hf) fun D σ H ⟨δ, m, DD, gd, h, E⟩ => ⟨δ, m, _, gd, h, fun v H1 d m1 k g1 r h1 => E.nx _ H1 _ m1 k ⟨g1.mem, g1.sl.set r i⟩ h1⟩
/-- name op= e (whole numbers) -/
def tAg (i : Nat) (f : Int → Int → Int) (t : TD) : TDS := fun DD δ m => ∃ a, δ[i]? = some (some (.int a)) ∧ t δ m fun d m1 => ∃ b, d = .int b ∧ DD.nx (δ.set i (some (.int (f a b)))) m1
theorem qs_aug {f : Int → Int → Int} {op : Operator} {i : Nat} {x : Str} {pos' : Pos} {t : TD} (ho : PIp X op (ipI f)) (hN : X.N.Nodup) (hi : X.N[i]? = some x) (hx : Loc X.env.scope x) (he : QE X e t)
    (hf : X.fn x = true ∨ X.env.scope.names.lookup x = some .local := by first | exact .inl rfl | exact .inr rfl | assumption) : QS X (.AugAssign (.Name x pos') op e pos) (tAg i f t) :=
  ps_imp (ps_aug hN hi hx he ho hf) fun D σ H ⟨δ, m, DD, gd, ⟨a, ha, h⟩, E⟩ => by
    obtain ⟨v, e, r⟩ := gd.sl.get ha
    cases r
    refine ⟨_, e, δ, m, _, gd, h, fun w H1 d m1 k g1 r1 ⟨b, e1, h1⟩ => ?_⟩
    subst e1
    cases r1
    exact ⟨a, b, rfl, rfl, E.nx _ H1 _ m1 k ⟨g1.mem, g1.sl.set (.int _) i⟩ h1⟩

/-! ### while, for -/
def tWh (c : TDT) (tb : TDS) : TDS := fun DD δ m => ∃ W : Nat → Sl → Mem → Prop, (∃ n, W n δ m) ∧ ∀ n δ m, W n δ m →
  c δ m fun b m1 => (b = true → tb { DD with nx := fun δ' m' => ∃ n', n' < n ∧ W n' δ' m', ct := fun δ' m' => ∃ n', n' < n ∧ W n' δ' m', bk := DD.nx } δ m1) ∧ (b = false → DD.nx δ m1)
theorem qs_while {c : Expr} {body : List Stmt} {tc : TDT} {tb : TDS} (hp : PassesOwn (model X.prog X.w) X.A X.env X.xe) (hc : QT X c tc) (hb : QSs X body tb) : QS X (.While c body [] pos) (tWh tc tb) :=
  ps_imp (ps_while hp hc hb) fun D σ H ⟨δ, m, DD, g, ⟨W, ⟨n0, w0⟩, turn⟩, E⟩ => by
    refine ⟨fun n σ' H' => ∃ δ' m', Keep H H' ∧ Good X.K H' m' σ' δ' ∧ W n δ' m', ⟨n0, δ, m, Keep.refl H, g, w0⟩, fun n σ1 H1 ⟨δ1, m1, k1, g1, w1⟩ => ?_⟩
    refine ⟨δ1, m1, _, g1, turn n δ1 m1 w1, fun b H2 m2 k2 g2 h2 => ?_⟩
    cases b with
    | true =>
      rw [if_pos rfl]
      refine ⟨fun σ' H' => ∃ n', n' < n ∧ ∃ δ' m', Keep H H' ∧ Good X.K H' m' σ' δ' ∧ W n' δ' m', fun σ' H' ⟨n', hn, q⟩ => ⟨n', hn, q⟩, δ1, m2, _, g2, h2.1 rfl, ?_⟩
      have again : ∀ σ' H' δ' m', Keep H2 H' → Good X.K H' m' σ' δ' → (∃ n', n' < n ∧ W n' δ' m') → ∃ n', n' < n ∧ ∃ δ' m', Keep H H' ∧ Good X.K H' m' σ' δ' ∧ W n' δ' m' :=
        fun σ' H' δ' m' k g ⟨n', hn, w⟩ => ⟨n', hn, δ', m', (k1.trans k2).trans k, g, w⟩
      exact ⟨again, (E.keep (k1.trans k2)).rt, (E.keep (k1.trans k2)).nx, again⟩
    | false =>
      rw [if_neg Bool.false_ne_true]
      exact E.nx σ1 H2 δ1 m2 (k1.trans k2) g2 (h2.2 rfl)
def FOc (G : TDG) (tb : TDS) (DD : EndsD) (δ : Sl) (xs : List D) (m1 : Mem) : Prop := ∃ Iv : Nat → Sl → Mem → Prop, Iv 0 δ m1 ∧
  (∀ i x δ m, xs[i]? = some x → Iv i δ m → G x δ m fun δ' m' => tb { DD with nx := Iv (i + 1), ct := Iv (i + 1), bk := DD.nx } δ' m') ∧ ∀ δ m, Iv xs.length δ m → DD.nx δ m
def tFo (I : TDI) (G : TDG) (tb : TDS) : TDS := fun DD δ m => I δ m (FOc G tb DD δ)
/-- .. over data that are written so -/
theorem for_T {α : Type} {ys : List α} {enc : α → D} {G : TDG} {tb : TDS} {DD : EndsD} {δ : Sl} {m1 : Mem} (Iv : Nat → Sl → Mem → Prop) (h0 : Iv 0 δ m1)
    (hs : ∀ i y δ m, ys[i]? = some y → Iv i δ m → G (enc y) δ m fun δ' m' => tb { DD with nx := Iv (i + 1), ct := Iv (i + 1), bk := DD.nx } δ' m') (hd : ∀ δ m, Iv ys.length δ m → DD.nx δ m) : FOc G tb DD δ (ys.map enc) m1 := by
  refine ⟨Iv, h0, fun i x δ m hx hi => ?_, fun δ m hi => hd δ m (by rw [List.length_map] at hi; exact hi)⟩
  rw [List.getElem?_map] at hx
  cases e : ys[i]? with
  | none => rw [e] at hx; cases hx
  | some y =>
    rw [e] at hx
    have ex := Option.some.inj hx
    subst ex
    exact hs i y δ m e hi
theorem qs_for {vs : List Nat} {tg iter : Expr} {body : List Stmt} {I : TDI} {G : TDG} {tb : TDS} (hp : PassesOwn (model X.prog X.w) X.A X.env X.xe) (hc : X.calm = true) (hi : QI X tg iter I) (hg : QG X vs tg G) (hb : QSs X body tb)
    (hs : ∀ x, foldedSetIterable iter X.env x = pure x := by intro _; rfl) : QS X (.For tg iter body [] pos) (tFo I G tb) :=
  ps_imp (ps_for hp hc hi hg hb hs) fun D σ H ⟨δ, m, DD, g, h, E⟩ => by
    refine ⟨δ, m, _, g, h, fun H1 xs m1 J k1 g1 wk ⟨Iv, i0, turn, fin⟩ => ?_⟩
    refine ⟨fun i n σ' H' => n + i = xs.length ∧ ∃ δ' m', Keep H1 H' ∧ Good X.K H' m' σ' δ' ∧ Iv i δ' m', ⟨xs.length, by omega, δ, m1, Keep.refl H1, g1, i0⟩, fun i n σ2 H2 ⟨hn, δ2, m2, k2, g2, w2⟩ => ?_⟩
    by_cases hlt : i < xs.length
    · have hx : xs[i]? = some xs[i] := List.getElem?_eq_getElem hlt
      refine .inr ⟨wk.goes i H2 k2 hlt, fun σ' H' => (n - 1) + (i + 1) = xs.length ∧ ∃ δ' m', Keep H1 H' ∧ Good X.K H' m' σ' δ' ∧ Iv (i + 1) δ' m', fun σ' H' q => ⟨n - 1, by omega, q⟩, fun x H3 hy => ?_⟩
      obtain ⟨k3, hm, r3⟩ := wk.yields i H2 x H3 xs[i] k2 hy hx
      refine ⟨xs[i], δ2, m2, _, ⟨hm m2 g2.mem, g2.sl.keep k3⟩, r3, turn i xs[i] δ2 m2 hx w2, fun σ4 H4 δ4 m4 k4 g4 _ h4 => ?_⟩
      have kk := (k2.trans k3).trans k4
      refine ⟨δ4, m4, _, g4, h4, ?_⟩
      have again : ∀ σ' H' δ' m', Keep H4 H' → Good X.K H' m' σ' δ' → Iv (i + 1) δ' m' → (n - 1) + (i + 1) = xs.length ∧ ∃ δ' m', Keep H1 H' ∧ Good X.K H' m' σ' δ' ∧ Iv (i + 1) δ' m' :=
        fun σ' H' δ' m' k g w => ⟨by omega, δ', m', kk.trans k, g, w⟩
      exact ⟨again, (E.keep (k1.trans kk)).rt, (E.keep (k1.trans kk)).nx, again⟩
    · have e : i = xs.length := by omega
      subst e
      exact .inl ⟨wk.stops H2 k2, E.nx σ2 H2 δ2 m2 (k1.trans k2) g2 (fin δ2 m2 w2)⟩

/-! ### what is walked -/
def iL (t : TD) : TDI := fun δ m Rd => t δ m fun d m1 => ∃ xs, d = .lst xs ∧ Rd xs m1
def iT (t : TD) : TDI := fun δ m Rd => t δ m fun d m1 => ∃ xs, d = .tup xs ∧ Rd xs m1
theorem walk_l {K : PySem.W.Frag} {H : Hp} {a : Addr} {vs : List V} {xs : List D} (h : FrL K H a vs) (r : RepL K H xs vs) : WalkD K (Itl K a) xs H where
  goes := fun i H' k hi => by
    have hl := r.length
    exact ⟨vs, vs[i]'(by omega), (h.keep k).sq, by simp⟩
  stops := fun H' k => ⟨vs, (h.keep k).sq, Nat.le_of_eq r.length.symm⟩
  yields := fun i H' x H2 d k y hx => by
    obtain ⟨e, y⟩ := y
    subst e
    obtain ⟨v, hv, rv⟩ := r.get hx
    have := y vs (h.keep k).sq
    rw [hv] at this; cases this
    exact ⟨Keep.refl _, fun _ q => q, rv.keep k⟩
theorem qi_list {tg : Expr} {t : TD} (h : QE X e t) : QI X tg e (iL t) :=
  pi_imp (pi_list h) fun σ H R ⟨δ, m, Rd, g, h, q⟩ => ⟨δ, m, _, g, h, fun v H1 d m1 k g1 r ⟨xs, e, h1⟩ => by
    subst e
    obtain ⟨a, vs, rfl, ha, ru⟩ := r.lstI
    exact ⟨a, rfl, ⟨vs, ha.sq⟩, q H1 xs m1 _ k g1 (walk_l ha ru) h1⟩⟩
theorem walk_t {K : PySem.W.Frag} {H : Hp} {a : Addr} {vs : List V} {xs : List D} (h : H a = some (.tup vs)) (r : RepL K H xs vs) : WalkD K (Itt K a) xs H where
  goes := fun i H' k hi => by
    have hl := r.length
    exact ⟨vs, vs[i]'(by omega), .of (k _ _ h trivial), by simp⟩
  stops := fun H' k => ⟨vs, .of (k _ _ h trivial), Nat.le_of_eq r.length.symm⟩
  yields := fun i H' x H2 d k y hx => by
    obtain ⟨e, y⟩ := y
    subst e
    obtain ⟨v, hv, rv⟩ := r.get hx
    have := y vs (.of (k _ _ h trivial))
    rw [hv] at this; cases this
    exact ⟨Keep.refl _, fun _ q => q, rv.keep k⟩
theorem qi_tup {tg : Expr} {t : TD} (h : QE X e t) : QI X tg e (iT t) :=
  pi_imp (pi_tup h) fun σ H R ⟨δ, m, Rd, g, h, q⟩ => ⟨δ, m, _, g, h, fun v H1 d m1 k g1 r ⟨xs, e, h1⟩ => by
    subst e
    obtain ⟨a, vs, rfl, ha, ru⟩ := r.tupI
    exact ⟨a, rfl, ⟨vs, .of ha⟩, q H1 xs m1 _ k g1 (walk_t ha ru) h1⟩⟩
/-- range(n) as data -/
def rgD (lo : Int) (n : Nat) : List D := (List.range n).map fun i => D.int (lo + (i : Nat))
theorem rgD_length (lo : Int) (n : Nat) : (rgD lo n).length = n := by unfold rgD; rw [List.length_map, List.length_range]
theorem rgD_get {lo : Int} {n i : Nat} {d : D} (h : (rgD lo n)[i]? = some d) : d = .int (lo + (i : Nat)) := by
  have hi : i < n := by
    have := (List.getElem?_eq_some_iff.mp h).1
    rw [rgD_length] at this
    exact this
  unfold rgD at h
  rw [List.getElem?_map, List.getElem?_range hi] at h
  exact (Option.some.inj h).symm
theorem walk_r {K : PySem.W.Frag} {H : Hp} (lo : Int) (n : Nat) : WalkD K (Itr lo n) (rgD lo n) H where
  goes := fun i H' _ hi => by rw [rgD_length] at hi; exact hi
  stops := fun H' _ => by rw [rgD_length]; exact Nat.le_refl n
  yields := fun i H' x H2 d _ y hx => by
    obtain ⟨e, y⟩ := y
    subst e y
    have e := rgD_get hx
    subst e
    exact ⟨Keep.refl _, fun _ q => q, .int _⟩
def iR (t : TDA) : TDI := fun δ m Rd => t δ m fun ds m1 => ∃ n : Int, ds = [.int n] ∧ -(2 ^ 62) ≤ n ∧ n < 2 ^ 62 ∧ Rd (rgD 0 n.toNat) m1
theorem qi_range {tg a : Expr} {t : TDA} {p : Pos} (hg : Gl X "range") (hm : X.mg "range" = none) (ha : QA X [a] t) (hs : starEach [a] X.env = [(false, eval a X.env)] := by rfl) : QI X tg (.Call (.Name "range" p) [a] [] pos) (iR t) :=
  pi_imp (pi_range1 hg hm ha hs) fun σ H R ⟨δ, m, Rd, g, h, q⟩ => ⟨δ, m, _, g, h, fun vs H1 ds m1 k g1 r ⟨n, e, h1, h2, h3⟩ => by
    subst e
    cases r with
    | cons r rr =>
      cases rr
      cases r
      exact ⟨n, rfl, h1, h2, q H1 _ m1 _ k g1 (walk_r 0 n.toNat) h3⟩⟩
end

/-! ### the promise of a def over data -/
abbrev DSp := List D → Mem → (D → Mem → Prop) → Prop
def spD (K : PySem.W.Frag) (S : DSp) : Sp := fun vs H Q _ => ∃ ds m Kd, RepL K H ds vs ∧ MOk K H m ∧ S ds m Kd ∧ ∀ v H' d m', Keep H H' → MOk K H' m' → Rep K H' d v → Kd d m' → Q v H'
def tCl (S : DSp) (t : TDA) : TD := fun δ m Kd => t δ m fun ds m1 => S ds m1 Kd
section
variable {X : Cx} {k : Nat} {f : Addr} {fd : FuncData} {ps : List Str} {S : DSp} {x : Str} {p pos : Pos} {e : Expr} {es : List Expr} {t : TDA}
theorem q_call (F : FnOk X.prog X.w X.K X.mg X.base CX0 k f fd ps (spD X.K S)) (hr : Room k X.A) (hg : Gl X x) (hm : X.mg x = some (.ref f)) (hk : PySem.W.keepIn X.K (.ref f) = true) (hb : Binds X.K fd ps []) (ha : QA X (e :: es) t)
    (hd : (x == ("__debug__" : Str)) = false := by decide) (he : starEach (e :: es) X.env = (false, eval e X.env) :: starEach es X.env := by rfl) (hpl : (backTo pos (starEach es X.env)).any (·.1) = false := by rfl) :
    QE X (.Call (.Name x p) (e :: es) [] pos) (tCl S t) :=
  pe_imp (pe_call F hr hg hm hk hb .nil pass0 ha hd he hpl) fun σ H Q ⟨δ, m, Kd, g, h, q⟩ => ⟨δ, m, _, g, h, fun vs H1 ds m1 k1 g1 r1 h1 => by
    show spD X.K S (vs ++ []) H1 Q E0
    rw [List.append_nil]
    exact ⟨ds, m1, Kd, r1, g1.mem, h1, fun v H2 d m2 k2 g2 r2 h2 => q v H2 d m2 (k1.trans k2) (g1.next k2 g2) r2 h2⟩⟩
end
/-- what is wanted at a def's end: its own cells are forgotten -/
def endD (Kd : D → Mem → Prop) : EndsD := { nx := fun _ m' => ∃ m, SubM m m' ∧ Kd .non m, rt := fun d m' => ∃ m, SubM m m' ∧ Kd d m }
theorem fn_d {P : Program} {w : World} {K : PySem.W.Frag} {mg : Str → Option Value} {base : Heap} {x qual : Str} {st : Stmt} {f : Addr} {fd : FuncData} {N ps : List Str} {k : Nat} {S : DSp} (F : Fun K x qual st f fd) (sc : FnScope N ps (defScope st))
    (len : ∀ ds m Kd, S ds m Kd → ds.length = ps.length)
    (hbody : ∀ (cdv : Value) (A : Around) (outer : List Env) (s : Shared) (H : Hp) (E : XK), Room k (A.deeper (envOfC qual (defScope st) s.heap.objs.size f cdv)) →
      ∃ T : TDS, QSs (cxOf CX0 P w K mg base N qual (defScope st) f cdv A outer s H E).nox (defBody st) T ∧ ∀ ds m Kd, S ds m Kd → T (endD Kd) (startD N ds) m) : FnOk P w K mg base CX0 (k + 1) f fd ps (spD K S) := by
  refine F.ok sc (fun vs H Q E ⟨ds, m, Kd, r, _, h, _⟩ => by rw [← r.length]; exact len ds m Kd h) fun cdv A outer s H vs Q E hr ⟨ds, m, Kd, r, g, h, q⟩ => ?_
  obtain ⟨T, hT, hq⟩ := hbody cdv A outer s H E hr
  refine ⟨_, hT, startD N ds, m, endD Kd, ⟨g, sOk_start r⟩, hq ds m Kd h, ⟨fun σ' H' δ' m' k g' ⟨m0, s0, h0⟩ => ?_, fun v H' d m' k g' r' ⟨m0, s0, h0⟩ => ?_, fun _ _ _ _ _ _ z => z, fun _ _ _ _ _ _ z => z⟩⟩
  · exact q .non H' .non m0 k (g'.mem.sub s0) .non h0
  · exact q v H' d m0 k (g'.sub s0) r' h0
end MW

end
section
set_option Elab.async false
set_option linter.all false
set_option maxRecDepth 100000
/-! MwOps: operators, comparisons, subscripts, built-ins and methods over data. -/
namespace MW
open PySem PySem.Spec PyProof.Rows L2

/-! ### whole numbers -/
def dI (C : Int → Int → Prop) (f : Int → Int → D) : DR2 := fun x y m Kd => ∃ i j, x = .int i ∧ y = .int j ∧ C i j ∧ Kd (f i j) m
def dI0 (f : Int → Int → D) : DR2 := fun x y m Kd => ∃ i j, x = .int i ∧ y = .int j ∧ Kd (f i j) m
section
variable {K : PySem.W.Frag}
theorem liftI {C : Int → Int → Prop} {g : Int → Int → Int} : LiftR2 K (rI C fun i j => .int (g i j)) (dI C fun i j => .int (g i j)) := fun σ δ H m x y dx dy Kd Q g1 rx ry ⟨i, j, e1, e2, c, h⟩ q => by
  subst e1; subst e2
  cases rx; cases ry
  exact ⟨i, j, rfl, rfl, c, q _ H _ m (Keep.refl H) g1 (.int _) h⟩
theorem liftI0 {g : Int → Int → Int} : LiftR2 K (rI0 fun i j => .int (g i j)) (dI0 fun i j => .int (g i j)) := fun σ δ H m x y dx dy Kd Q g1 rx ry ⟨i, j, e1, e2, h⟩ q => by
  subst e1; subst e2
  cases rx; cases ry
  exact ⟨i, j, rfl, rfl, q _ H _ m (Keep.refl H) g1 (.int _) h⟩
theorem liftB0 {g : Int → Int → Bool} : LiftR2 K (rI0 fun i j => .bl (g i j)) (dI0 fun i j => .bl (g i j)) := fun σ δ H m x y dx dy Kd Q g1 rx ry ⟨i, j, e1, e2, h⟩ q => by
  subst e1; subst e2
  cases rx; cases ry
  exact ⟨i, j, rfl, rfl, q _ H _ m (Keep.refl H) g1 (.bl _) h⟩
def dIsN (neg : Bool) : DR2 := fun x y m Kd => y = .non ∧ ((x = .non ∧ Kd (.bl (!neg)) m) ∨ (∃ i, x = .int i) ∧ Kd (.bl neg) m ∨ (∃ xs, x = .tup xs) ∧ Kd (.bl neg) m)
theorem liftIsN : LiftR2 K (fun x y H Q => y = .non ∧ Q (.bl (decide (x = .non))) H) (dIsN false) := fun σ δ H m x y dx dy Kd Q g1 rx ry ⟨e, h⟩ q => by
  subst e
  cases ry
  refine ⟨rfl, ?_⟩
  rcases h with ⟨e, h⟩ | ⟨⟨i, e⟩, h⟩ | ⟨⟨xs, e⟩, h⟩ <;> subst e <;> cases rx
  · exact q _ H _ m (Keep.refl H) g1 (.bl _) h
  · exact q _ H _ m (Keep.refl H) g1 (.bl _) h
  · exact q _ H _ m (Keep.refl H) g1 (.bl _) h
theorem liftNotN : LiftR2 K (fun x y H Q => y = .non ∧ Q (.bl (!decide (x = .non))) H) (dIsN true) := fun σ δ H m x y dx dy Kd Q g1 rx ry ⟨e, h⟩ q => by
  subst e
  cases ry
  refine ⟨rfl, ?_⟩
  rcases h with ⟨e, h⟩ | ⟨⟨i, e⟩, h⟩ | ⟨⟨xs, e⟩, h⟩ <;> subst e <;> cases rx
  · exact q _ H _ m (Keep.refl H) g1 (.bl _) h
  · exact q _ H _ m (Keep.refl H) g1 (.bl _) h
  · exact q _ H _ m (Keep.refl H) g1 (.bl _) h

/-! ### data compared -/
mutual
def toP : D → PyData
  | .bl b => .bool b
  | .int i => .int i
  | .str x => .str x
  | .tup ds => .tuple (toPs ds)
  | .lst ds => .list (toPs ds)
  | _ => .none
def toPs : List D → List PyData
  | [] => []
  | d :: ds => toP d :: toPs ds
end
def okD : Nat → D → Bool
  | _, .non => true
  | _, .bl _ => true
  | _, .int _ => true
  | _, .str x => PyData.canLay0 (.str x)
  | n + 1, .tup ds => ds.all (okD n)
  | n + 1, .lst ds => ds.all (okD n)
  | _, _ => false
theorem toPs_map : ∀ ds : List D, toPs ds = ds.map toP
  | [] => by simp [toPs]
  | d :: ds => by simp [toPs, toPs_map ds]
theorem okD_lay : ∀ (n : Nat) (d : D), okD n d = true → (toP d).canLay0 = true ∧ (toP d).depth ≤ n := by
  intro n
  induction n with
  | zero =>
    intro d h
    cases d <;> simp_all [okD, toP, PyData.canLay0, PyData.depth]
  | succ n ih =>
    have all : ∀ ds : List D, ds.all (okD n) = true → PyData.canLayAll0 (ds.map toP) = true ∧ PyData.depthAll (ds.map toP) ≤ n := by
      intro ds
      induction ds with
      | nil => intro _; simp [PyData.canLayAll0, PyData.depthAll]
      | cons d ds ihd =>
        intro h
        rw [List.all_cons, Bool.and_eq_true] at h
        obtain ⟨h1, h2⟩ := ih d h.1
        obtain ⟨h3, h4⟩ := ihd h.2
        simp only [List.map_cons, PyData.canLayAll0, PyData.depthAll, h1, h3, Bool.and_self, true_and]
        omega
    intro d h
    cases d with
    | tup ds =>
      have := all ds (by simpa [okD] using h)
      simp only [toP, PyData.canLay0, PyData.depth, toPs_map, this.1, true_and]
      omega
    | lst ds =>
      have := all ds (by simpa [okD] using h)
      simp only [toP, PyData.canLay0, PyData.depth, toPs_map, this.1, true_and]
      omega
    | str x => simp_all [okD, toP, PyData.canLay0, PyData.depth]
    | non => simp [toP, PyData.canLay0, PyData.depth]
    | bl b => simp [toP, PyData.canLay0, PyData.depth]
    | int b => simp [toP, PyData.canLay0, PyData.depth]
    | _ => simp [okD] at h
theorem okD_shaped {n : Nat} {d : D} (h : okD n d = true) (hn : n ≤ 60) : SeqAt.shaped (toP d) = true := by
  obtain ⟨h1, h2⟩ := okD_lay n d h
  unfold SeqAt.shaped
  rw [Bool.and_eq_true]
  exact ⟨h1, decide_eq_true (by omega)⟩
theorem rep_dp {H : Hp} : ∀ (n : Nat) {d : D} {v : V}, okD n d = true → Rep K H d v → Dp K H v (toP d) := by
  intro n
  induction n with
  | zero =>
    intro d v h r
    cases r <;> first | (simp [okD] at h; done) | skip
    · simp only [toP]; exact .non
    · simp only [toP]; exact .bl _
    · simp only [toP]; exact .int _
    · simp only [toP]; exact .str _
  | succ n ih =>
    have all : ∀ {ds : List D} {vs : List V}, ds.all (okD n) = true → RepL K H ds vs → DpAll K H vs (toPs ds) := by
      intro ds
      induction ds with
      | nil => intro vs _ r; cases r; simp only [toPs]; exact .nil
      | cons d ds ihd =>
        intro vs h r
        rw [List.all_cons, Bool.and_eq_true] at h
        cases r with
        | cons r t => simp only [toPs]; exact .cons (ih h.1 r) (ihd h.2 t)
    intro d v h r
    cases r <;> first | (simp [okD] at h; done) | skip
    · simp only [toP]; exact .non
    · simp only [toP]; exact .bl _
    · simp only [toP]; exact .int _
    · simp only [toP]; exact .str _
    · rename_i ha ru
      simp only [toP]; exact .tup (.of ha) (all (by simpa [okD] using h) ru)
    · rename_i ha ru
      simp only [toP]; exact .lst ha.sq (all (by simpa [okD] using h) ru)
abbrev eqD (x y : D) : Bool := PyData.eqv (toP x) (toP y)
theorem eqD_int (a b : Int) : eqD (.int a) (.int b) = (a == b) := by simp only [eqD, toP, PyData.eqv]
theorem eqD_bl (a b : Bool) : eqD (.bl a) (.bl b) = (a == b) := by simp only [eqD, toP, PyData.eqv]
theorem eqD_str (a b : Str) : eqD (.str a) (.str b) = (a == b) := by simp only [eqD, toP, PyData.eqv]
theorem eqD_ni (a : Int) : eqD .non (.int a) = false := by simp only [eqD, toP, PyData.eqv]
theorem eqD_in (a : Int) : eqD (.int a) .non = false := by simp only [eqD, toP, PyData.eqv]
theorem eqD_nn : eqD .non .non = true := by simp only [eqD, toP, PyData.eqv]
def eqDs : List D → List D → Bool
  | [], [] => true
  | x :: xs, y :: ys => eqD x y && eqDs xs ys
  | _, _ => false
theorem eqDs_eq : ∀ xs ys : List D, PyData.eqvAll (toPs xs) (toPs ys) = eqDs xs ys
  | [], [] => by simp only [toPs, PyData.eqvAll, eqDs]
  | [], _ :: _ => by simp only [toPs, PyData.eqvAll, eqDs]
  | _ :: _, [] => by simp only [toPs, PyData.eqvAll, eqDs]
  | x :: xs, y :: ys => by simp only [toPs, PyData.eqvAll, eqDs, eqDs_eq xs ys]
theorem eqD_tup (xs ys : List D) : eqD (.tup xs) (.tup ys) = eqDs xs ys := by simp only [eqD, toP, PyData.eqv, eqDs_eq]
theorem eqD_lst (xs ys : List D) : eqD (.lst xs) (.lst ys) = eqDs xs ys := by simp only [eqD, toP, PyData.eqv, eqDs_eq]
theorem eqDs_ints : ∀ xs ys : List Int, eqDs (xs.map D.int) (ys.map D.int) = decide (xs = ys)
  | [], [] => by simp [eqDs]
  | [], _ :: _ => by simp [eqDs]
  | _ :: _, [] => by simp [eqDs]
  | x :: xs, y :: ys => by
    rw [List.map_cons, List.map_cons, eqDs, eqD_int, eqDs_ints xs ys]
    by_cases h : x = y <;> simp [h]
def dEq : DR2 := fun x y m Kd => okD 4 x = true ∧ okD 4 y = true ∧ Kd (.bl (eqD x y)) m
def dNe : DR2 := fun x y m Kd => okD 4 x = true ∧ okD 4 y = true ∧ Kd (.bl (!eqD x y)) m
theorem liftEq : LiftR2 K (rEqD K) dEq := fun σ δ H m x y dx dy Kd Q g1 rx ry ⟨h1, h2, h⟩ q =>
  ⟨_, _, rep_dp 4 h1 rx, rep_dp 4 h2 ry, okD_shaped h1 (by decide), okD_shaped h2 (by decide), q _ H _ m (Keep.refl H) g1 (.bl _) h⟩
theorem liftNe : LiftR2 K (rNeD K) dNe := fun σ δ H m x y dx dy Kd Q g1 rx ry ⟨h1, h2, h⟩ q =>
  ⟨_, _, rep_dp 4 h1 rx, rep_dp 4 h2 ry, okD_shaped h1 (by decide), okD_shaped h2 (by decide), q _ H _ m (Keep.refl H) g1 (.bl _) h⟩

/-! ### dicts as data -/
def getI (kvs : List (Int × D)) (k : Int) : Option D := (kvs.find? fun kv => decide (kv.1 = k)).map (·.2)
def getP (kvs : List ((Int × Int) × D)) (k : Int × Int) : Option D := (kvs.find? fun kv => decide (kv.1 = k)).map (·.2)
theorem inl_eq (a b : Int) : decide ((Sum.inl a : Key) = Sum.inl b) = decide (a = b) := by
  by_cases h : a = b
  · subst h; simp
  · have : ¬ (Sum.inl a : Key) = Sum.inl b := fun q => h (Sum.inl.inj q)
    rw [decide_eq_false h, decide_eq_false this]
theorem pk_eq (a b : Int × Int) : decide (pk a = pk b) = decide (a = b) := by
  by_cases h : a = b
  · subst h; simp
  · have : ¬ pk a = pk b := fun q => h (by
      have q' : [(Sum.inl a.1 : Key), Sum.inl a.2] = [Sum.inl b.1, Sum.inl b.2] := q
      injection q' with q1 q2
      injection q2 with q2 _
      exact Prod.ext (Sum.inl.inj q1) (Sum.inl.inj q2))
    rw [decide_eq_false h, decide_eq_false this]
/-- what stands for what may be there -/
def RepO (K : PySem.W.Frag) (H : Hp) : Option D → Option V → Prop
  | none, none => True
  | some d, some v => Rep K H d v
  | _, _ => False
theorem repI_val {H : Hp} {k : Int} : ∀ {kvs : List (Int × D)} {ws : List (Key × V)}, RepI K H kvs ws → RepO K H (getI kvs k) (valV ws (Sum.inl k))
  | _, _, .nil => trivial
  | _, _, .cons (k := j) (d := d) (v := v) (ds := ds) (vs := vs) r t => by
    have ih := repI_val (k := k) t
    by_cases h : j = k
    · have e1 : getI ((j, d) :: ds) k = some d := by unfold getI; rw [List.find?_cons]; simp [h]
      have e2 : valV ((Sum.inl j, v) :: vs) (Sum.inl k) = some v := valV_pos (p := ((Sum.inl j : Key), v)) (by simp [h])
      rw [e1, e2]; exact r
    · have e1 : getI ((j, d) :: ds) k = getI ds k := by unfold getI; rw [List.find?_cons]; simp [h]
      have e2 : valV ((Sum.inl j, v) :: vs) (Sum.inl k) = valV vs (Sum.inl k) := valV_neg (p := ((Sum.inl j : Key), v)) (by simp [h])
      rw [e1, e2]; exact ih
theorem repP_val {H : Hp} {k : Int × Int} : ∀ {kvs : List ((Int × Int) × D)} {ws : List (List Key × V)}, RepP K H kvs ws → RepO K H (getP kvs k) (valV ws (pk k))
  | _, _, .nil => trivial
  | _, _, .cons (k := j) (d := d) (v := v) (ds := ds) (vs := vs) r t => by
    have ih := repP_val (k := k) t
    have pe := pk_eq j k
    by_cases h : j = k
    · have e1 : getP ((j, d) :: ds) k = some d := by unfold getP; rw [List.find?_cons]; simp [h]
      have e2 : valV ((pk j, v) :: vs) (pk k) = some v := valV_pos (p := (pk j, v)) (by rw [h])
      rw [e1, e2]; exact r
    · have e1 : getP ((j, d) :: ds) k = getP ds k := by unfold getP; rw [List.find?_cons]; simp [h]
      rw [decide_eq_false h] at pe
      have e2 : valV ((pk j, v) :: vs) (pk k) = valV vs (pk k) := valV_neg (p := (pk j, v)) (of_decide_eq_false pe)
      rw [e1, e2]; exact ih
theorem RepO.isSome {H : Hp} {o : Option D} {w : Option V} (r : RepO K H o w) : w.isSome = o.isSome := by
  cases o <;> cases w <;> first | rfl | exact (show False from r).elim
/-- a value or a cell's content -/
theorem look_lst {H : Hp} {m : Mem} {d : D} {v : V} {ds : List D} (g : MOk K H m) (r : Rep K H d v) (h : look m d = .lst ds) : ∃ a vs, v = .ref a ∧ SqL K H a vs ∧ RepL K H ds vs := by
  cases d with
  | ref p =>
    cases r
    cases e : m p with
    | none => simp [look, e] at h
    | some c =>
      have h : c = .lst ds := by simpa [look, e] using h
      subst h
      obtain ⟨vs, h1, h2⟩ := g p _ e
      exact ⟨p, vs, rfl, .of h1, h2⟩
  | lst xs =>
    have h : D.lst xs = .lst ds := h
    cases h
    obtain ⟨a, vs, e, h1, h2⟩ := r.lstI
    exact ⟨a, vs, e, h1.sq, h2⟩
  | _ => exact absurd h (by simp [look])
theorem look_dI {H : Hp} {m : Mem} {d : D} {v : V} {ds : List (Int × D)} (g : MOk K H m) (r : Rep K H d v) (h : look m d = .dI ds) : ∃ a vs, v = .ref a ∧ Rd H a (.dK vs) ∧ RepI K H ds vs := by
  cases d with
  | ref p =>
    cases r
    cases e : m p with
    | none => simp [look, e] at h
    | some c =>
      have h : c = .dI ds := by simpa [look, e] using h
      subst h
      obtain ⟨vs, h1, h2⟩ := g p _ e
      exact ⟨p, vs, rfl, .of h1, h2⟩
  | dI xs =>
    have h : D.dI xs = .dI ds := h
    cases h
    obtain ⟨a, o, vs, e, h1, h2⟩ := r.dII
    exact ⟨a, vs, e, .inr ⟨o, h1⟩, h2⟩
  | _ => exact absurd h (by simp [look])
theorem look_dP {H : Hp} {m : Mem} {d : D} {v : V} {ds : List ((Int × Int) × D)} (g : MOk K H m) (r : Rep K H d v) (h : look m d = .dP ds) : ∃ a vs, v = .ref a ∧ Rd H a (.dT vs) ∧ RepP K H ds vs := by
  cases d with
  | ref p =>
    cases r
    cases e : m p with
    | none => simp [look, e] at h
    | some c =>
      have h : c = .dP ds := by simpa [look, e] using h
      subst h
      obtain ⟨vs, h1, h2⟩ := g p _ e
      exact ⟨p, vs, rfl, .of h1, h2⟩
  | dP xs =>
    have h : D.dP xs = .dP ds := h
    cases h
    obtain ⟨a, o, vs, e, h1, h2⟩ := r.dPI
    exact ⟨a, vs, e, .inr ⟨o, h1⟩, h2⟩
  | _ => exact absurd h (by simp [look])
end
end MW

end
section
set_option Elab.async false
set_option linter.all false
set_option maxRecDepth 100000
/-! MwColl: in, subscripts, len, built-ins, methods over data. -/
namespace MW
open PySem PySem.Spec PyProof.Rows L2

section
variable {K : PySem.W.Frag} {X : Cx} {pos : Pos} {a b e : Expr} {es : List Expr}
/-! ### in -/
def flatD : D → Bool
  | .non => true
  | .bl _ => true
  | .int _ => true
  | .str _ => true
  | _ => false
def toV : D → V
  | .bl b => .bl b
  | .int i => .int i
  | .str x => .str x
  | _ => .non
theorem flat_rep {H : Hp} {d : D} {v : V} (f : flatD d = true) (r : Rep K H d v) : v = toV d ∧ flatV v = true := by
  cases r <;> first | exact ⟨rfl, rfl⟩ | (simp [flatD] at f)
theorem flats_rep {H : Hp} : ∀ {ds : List D} {vs : List V}, ds.all flatD = true → RepL K H ds vs → vs = ds.map toV ∧ vs.all flatV = true
  | [], _, _, r => by cases r; exact ⟨rfl, rfl⟩
  | d :: ds, _, f, r => by
    cases r with
    | cons r t =>
      rw [List.all_cons, Bool.and_eq_true] at f
      obtain ⟨e1, f1⟩ := flat_rep f.1 r
      obtain ⟨e2, f2⟩ := flats_rep f.2 t
      subst e1 e2
      exact ⟨rfl, by rw [List.all_cons, f1, f2]; rfl⟩
theorem eqV_toV {x y : D} (fx : flatD x = true) (fy : flatD y = true) : eqV (toV x) (toV y) = eqD x y := by
  cases x <;> first | (simp [flatD] at fx; done) | skip
  all_goals (cases y <;> first | (simp [flatD] at fy; done) | skip)
  all_goals (simp only [toV, eqV, eqD, toP, PyData.eqv])
theorem inV_toV {x : D} (fx : flatD x = true) : ∀ ds : List D, ds.all flatD = true → inV (toV x) (ds.map toV) = ds.any fun z => eqD z x
  | [], _ => rfl
  | d :: ds, f => by
    rw [List.all_cons, Bool.and_eq_true] at f
    have ih := inV_toV fx ds f.2
    unfold inV at ih ⊢
    rw [List.map_cons, List.any_cons, List.any_cons, eqV_toV f.1 fx, ih]
def memD (c x : D) : Option Bool := match c, x with
  | .dI kvs, .int k => some (getI kvs k).isSome
  | .dI _, .non => some false
  | .dP kvs, .tup [.int p, .int q] => some (getP kvs (p, q)).isSome
  | .tup xs, x => if (xs.all flatD && flatD x) = true then some (xs.any fun z => eqD z x) else none
  | .lst xs, x => if (xs.all flatD && flatD x) = true then some (xs.any fun z => eqD z x) else none
  | _, _ => none
def dIn (neg : Bool) : DR2 := fun x y m Kd => ∃ b, memD (look m y) x = some b ∧ Kd (.bl (if neg then !b else b)) m
def rInA (K : PySem.W.Frag) (neg : Bool) : R2 := fun x y H Q => rIn K neg x y H Q ∨ (∃ a o, y = .ref a ∧ DGet H a x o ∧ Q (.bl (if neg then !o.isSome else o.isSome)) H) ∨ ∃ a kvs, y = .ref a ∧ x = .non ∧ Rd H a (.dK kvs) ∧ Q (.bl neg) H
theorem op_inA (hu : X.A.units + 1 < cLine) : OpR X (compareOp .In) (rInA X.K false) := by
  refine op_in_seq.or (OpR.or ?_ ?_)
  · intro pins s σ H x y v u Q I rx ry ⟨a, o, e, g, q⟩
    subst e
    obtain rfl : u = Value.ref a := ry
    exact d_in hu I g rx fun s' I' => ⟨.bl o.isSome, H, I', rfl, q⟩
  · intro pins s σ H x y v u Q I rx ry ⟨a, kvs, e, ex, g, q⟩
    subst e ex
    obtain rfl : u = Value.ref a := ry
    obtain rfl : v = Value.none := rx
    exact d_inNone I g fun s' I' => ⟨.bl false, H, I', rfl, q⟩
theorem op_notInA (hu : X.A.units + 1 < cLine) : OpR X (compareOp .NotIn) (rInA X.K true) := by
  refine op_notIn_seq.or (OpR.or ?_ ?_)
  · intro pins s σ H x y v u Q I rx ry ⟨a, o, e, g, q⟩
    subst e
    obtain rfl : u = Value.ref a := ry
    exact d_notIn hu I g rx fun s' I' => ⟨.bl (!o.isSome), H, I', rfl, q⟩
  · intro pins s σ H x y v u Q I rx ry ⟨a, kvs, e, ex, g, q⟩
    subst e ex
    obtain rfl : u = Value.ref a := ry
    obtain rfl : v = Value.none := rx
    exact d_notInNone I g fun s' I' => ⟨.bl true, H, I', rfl, q⟩
theorem look_tup {m : Mem} {d : D} {ds : List D} (h : look m d = .tup ds) : d = .tup ds ∨ ∃ p, d = .ref p ∧ m p = some (.tup ds) := by
  cases d with
  | ref p =>
    cases e : m p with
    | none => simp [look, e] at h
    | some c => exact .inr ⟨p, rfl, by rw [← h]; simp [look, e]⟩
  | _ => exact .inl h
theorem look_tupI {H : Hp} {m : Mem} {d : D} {v : V} {ds : List D} (g : MOk K H m) (r : Rep K H d v) (h : look m d = .tup ds) : ∃ a vs, v = .ref a ∧ H a = some (.tup vs) ∧ RepL K H ds vs := by
  rcases look_tup h with e | ⟨p, e, e2⟩
  · subst e; exact r.tupI
  · exact (show False from g p _ e2).elim
theorem dget_I {H : Hp} {a : Addr} {vs : List (Key × V)} (k : Int) (h : Rd H a (.dK vs)) : DGet H a (.int k) (valV vs (Sum.inl k)) := .inl ⟨vs, Sum.inl k, h, rfl, rfl⟩
theorem dget_P {H : Hp} {a p : Addr} {vs : List (List Key × V)} (k : Int × Int) (h : Rd H a (.dT vs)) (hp : H p = some (.tup [.int k.1, .int k.2])) : DGet H a (.ref p) (valV vs (pk k)) := .inr ⟨vs, pk k, p, h, rfl, hp, rfl⟩
theorem pair_rep {H : Hp} {p q : Int} {v : V} (r : Rep K H (.tup [.int p, .int q]) v) : ∃ a, v = .ref a ∧ H a = some (.tup [.int p, .int q]) := by
  obtain ⟨a, vs, rfl, h, ru⟩ := r.tupI
  cases ru with
  | cons r1 t =>
    cases t with
    | cons r2 t =>
      cases t; cases r1; cases r2
      exact ⟨a, rfl, h⟩
theorem liftIn (neg : Bool) : LiftR2 K (rInA K neg) (dIn neg) := fun σ δ H m x y dx dy Kd Q g rx ry ⟨b, hb, h⟩ q => by
  have fin : ∀ b', b' = (if neg then !b else b) → Q (.bl b') H := fun b' e => by subst e; exact q _ H _ m (Keep.refl H) g (.bl _) h
  generalize hc : look m dy = c at hb
  unfold memD at hb
  split at hb
  · rename_i kvs k _
    obtain ⟨a, vs, rfl, h1, h2⟩ := look_dI g.mem ry hc
    cases rx
    have hv := (repI_val (k := k) h2).isSome
    have e : (getI kvs k).isSome = b := Option.some.inj hb
    exact .inr (.inl ⟨a, _, rfl, dget_I k h1, fin _ (by rw [hv, e])⟩)
  · obtain ⟨a, vs, rfl, h1, h2⟩ := look_dI g.mem ry hc
    cases rx
    have e : false = b := Option.some.inj hb
    subst e
    exact .inr (.inr ⟨a, vs, rfl, rfl, h1, fin _ (by cases neg <;> rfl)⟩)
  · rename_i kvs p r _
    obtain ⟨a, vs, rfl, h1, h2⟩ := look_dP g.mem ry hc
    obtain ⟨t, rfl, ht⟩ := pair_rep rx
    have hv := (repP_val (k := (p, r)) h2).isSome
    have e : (getP kvs (p, r)).isSome = b := Option.some.inj hb
    exact .inr (.inl ⟨a, _, rfl, dget_P (p, r) h1 ht, fin _ (by rw [hv, e])⟩)
  · rename_i xs x' _
    split at hb <;> rename_i hf
    · rw [Bool.and_eq_true] at hf
      obtain ⟨a, vs, rfl, h1, h2⟩ := look_tupI g.mem ry hc
      obtain ⟨e1, f1⟩ := flat_rep hf.2 rx
      obtain ⟨e2, f2⟩ := flats_rep hf.1 h2
      refine .inl ⟨a, vs, rfl, .inr (.of h1), f1, f2, fin _ ?_⟩
      rw [e1, e2, inV_toV hf.2 _ hf.1, Option.some.inj hb]
    · cases hb
  · rename_i xs x' _
    split at hb <;> rename_i hf
    · rw [Bool.and_eq_true] at hf
      obtain ⟨a, vs, rfl, h1, h2⟩ := look_lst g.mem ry hc
      obtain ⟨e1, f1⟩ := flat_rep hf.2 rx
      obtain ⟨e2, f2⟩ := flats_rep hf.1 h2
      refine .inl ⟨a, vs, rfl, .inl h1, f1, f2, fin _ ?_⟩
      rw [e1, e2, inV_toV hf.2 _ hf.1, Option.some.inj hb]
    · cases hb
  · cases hb

/-! ### subscripts -/
def seqD : D → Option (List D)
  | .tup ds => some ds
  | .lst ds => some ds
  | _ => none
def dIx : DR2 := fun x y m Kd => ∃ ds i d, seqD (look m x) = some ds ∧ y = .int i ∧ atI ds i = some d ∧ Kd d m
def rIxLT (K : PySem.W.Frag) : R2 := fun x y H Q => rIxL K x y H Q ∨ rIxT K x y H Q
theorem ix_lt : IxR X (rIxLT X.K) := ix_list.or ix_tup
theorem seq_rep {H : Hp} {m : Mem} {d : D} {v : V} {ds : List D} (g : MOk K H m) (r : Rep K H d v) (h : seqD (look m d) = some ds) : ∃ a vs, v = .ref a ∧ (SqL K H a vs ∨ SqT K H a vs) ∧ RepL K H ds vs := by
  generalize hc : look m d = c at h
  cases c <;> first | (simp [seqD] at h; done) | skip
  · cases h
    obtain ⟨a, vs, e, h1, h2⟩ := look_tupI g r hc
    exact ⟨a, vs, e, .inr (.of h1), h2⟩
  · cases h
    obtain ⟨a, vs, e, h1, h2⟩ := look_lst g r hc
    exact ⟨a, vs, e, .inl h1, h2⟩
theorem atI_rep {H : Hp} {ds : List D} {vs : List V} {i : Int} {d : D} (r : RepL K H ds vs) (h : atI ds i = some d) : ∃ v, atI vs i = some v ∧ Rep K H d v := by
  unfold atI at h ⊢
  rw [← r.length]
  cases e : ixN ds.length i with
  | none => rw [e] at h; cases h
  | some j =>
    rw [e] at h
    exact r.get h
theorem liftIx : LiftR2 K (rIxLT K) dIx := fun σ δ H m x y dx dy Kd Q g rx ry ⟨ds, i, d, h1, e, h2, h⟩ q => by
  subst e
  cases ry
  obtain ⟨a, vs, rfl, hs, ru⟩ := seq_rep g.mem rx h1
  obtain ⟨v, hv, rv⟩ := atI_rep ru h2
  have fin := q v H d m (Keep.refl H) g rv h
  rcases hs with hs | hs
  · exact .inl ⟨a, vs, i, v, rfl, rfl, hs, hv, fin⟩
  · exact .inr ⟨a, vs, i, v, rfl, rfl, hs, hv, fin⟩
theorem q_ix {ta tb : TD} (ha : QE X a ta) (hb : QE X b tb) (hs : PlainIx b := by exact fun _ _ => rfl) : QE X (.Subscript a b pos) (tO dIx ta tb) :=
  pe_imp (pe_ix ix_lt ha hb hs) fun _ _ _ h => low2 liftIx h
/-- d[k] -/
def getD_ (c x : D) : Option D := match c, x with
  | .dI kvs, .int k => getI kvs k
  | .dP kvs, .tup [.int p, .int q] => getP kvs (p, q)
  | _, _ => none
def dGe : DR2 := fun x y m Kd => ∃ d, getD_ (look m x) y = some d ∧ Kd d m
def rDGet : R2 := fun x y H Q => ∃ a v, x = .ref a ∧ DGet H a y (some v) ∧ Q v H
theorem RepO.some_of {H : Hp} {o : Option D} {w : Option V} {d : D} (r : RepO K H o w) (h : o = some d) : ∃ v, w = some v ∧ Rep K H d v := by
  subst h
  cases w with
  | none => exact (show False from r).elim
  | some v => exact ⟨v, rfl, r⟩
theorem liftGe : LiftR2 K rDGet dGe := fun σ δ H m x y dx dy Kd Q g rx ry ⟨d, hd, h⟩ q => by
  generalize hc : look m dx = c at hd
  unfold getD_ at hd
  split at hd
  · rename_i kvs k _
    obtain ⟨a, vs, rfl, h1, h2⟩ := look_dI g.mem rx hc
    cases ry
    obtain ⟨v, e, rv⟩ := (repI_val (k := k) h2).some_of hd
    exact ⟨a, v, rfl, by rw [← e]; exact dget_I k h1, q v H d m (Keep.refl H) g rv h⟩
  · rename_i kvs p r _
    obtain ⟨a, vs, rfl, h1, h2⟩ := look_dP g.mem rx hc
    obtain ⟨t, rfl, ht⟩ := pair_rep ry
    obtain ⟨v, e, rv⟩ := (repP_val (k := (p, r)) h2).some_of hd
    exact ⟨a, v, rfl, by rw [← e]; exact dget_P (p, r) h1 ht, q v H d m (Keep.refl H) g rv h⟩
  · cases hd
theorem q_dget {ta tb : TD} (hu : X.A.units + 1 < cLine) (ha : QE X a ta) (hb : QE X b tb) (hs : NoSl b := by exact fun _ _ => rfl) : QE X (.Subscript a b pos) (tO dGe ta tb) :=
  pe_imp (pe_dget hu ha hb hs) fun _ _ _ h => low2 liftGe h

/-! ### calls of built-ins by values -/
abbrev DRC := List D → Mem → (D → Mem → Prop) → Prop
def LiftC (K : PySem.W.Frag) (r : List V → Hp → VK → Prop) (R : DRC) : Prop := ∀ (σ : L2.St) (δ : Sl) (H : Hp) (m : Mem) (vs : List V) (ds : List D) (Kd : D → Mem → Prop) (Q : VK), Good K H m σ δ → RepL K H ds vs → R ds m Kd → KontE K H σ δ Kd Q → r vs H Q
def tCb (R : DRC) (t : TDA) : TD := fun δ m Kd => t δ m fun ds m1 => R ds m1 Kd
theorem lowC {r : List V → Hp → VK → Prop} {R : DRC} {t : TDA} (l : LiftC K r R) {σ : L2.St} {H : Hp} {Q : VK} (h : low K (tCb R t) σ H Q) : tCB r (lowA K t) σ H Q := by
  obtain ⟨δ, m, Kd, g, h, q⟩ := h
  exact ⟨δ, m, _, g, h, fun vs H1 ds m1 k1 g1 r1 h1 => l σ δ H1 m1 vs ds Kd Q g1 r1 h1 (q.keep k1)⟩
theorem q_callB {id : String} {x : Str} {p : Pos} {r : List V → Hp → VK → Prop} {R : DRC} {t : TDA} (hc : CallR X (.builtin id) r) (l : LiftC X.K r R) (hg : Gl X x) (hm : X.mg x = none) (hv : bootBuiltins x = some (.builtin id)) (ha : QA X (e :: es) t) (hn : x ≠ "__name__" := by decide) (hdb : (x == ("__debug__" : Str)) = false := by decide)
    (he : starEach (e :: es) X.env = (false, eval e X.env) :: starEach es X.env := by rfl) (hpl : (backTo pos (starEach es X.env)).any (·.1) = false := by rfl) : QE X (.Call (.Name x p) (e :: es) [] pos) (tCb R t) :=
  pe_imp (pe_callB hc hg hm hv ha hn hdb he hpl) fun _ _ _ h => lowC l h
theorem q_callTy {T : String} {x : Str} {p : Pos} {r : List V → Hp → VK → Prop} {R : DRC} {t : TDA} (hc : CallR X (.type T) r) (l : LiftC X.K r R) (hg : Gl X x) (hm : X.mg x = none) (hv : bootBuiltins x = some (.type T)) (ha : QA X (e :: es) t) (hn : x ≠ "__name__" := by decide) (hdb : (x == ("__debug__" : Str)) = false := by decide)
    (he : starEach (e :: es) X.env = (false, eval e X.env) :: starEach es X.env := by rfl) (hpl : (backTo pos (starEach es X.env)).any (·.1) = false := by rfl) : QE X (.Call (.Name x p) (e :: es) [] pos) (tCb R t) :=
  pe_imp (pe_callTy hc hg hm hv ha hn hdb he hpl) fun _ _ _ h => lowC l h
theorem repL1 {H : Hp} {d : D} {vs : List V} (r : RepL K H [d] vs) : ∃ v, vs = [v] ∧ Rep K H d v := by
  cases r with
  | cons r t => cases t; exact ⟨_, rfl, r⟩
theorem repL2 {H : Hp} {d d2 : D} {vs : List V} (r : RepL K H [d, d2] vs) : ∃ v v2, vs = [v, v2] ∧ Rep K H d v ∧ Rep K H d2 v2 := by
  cases r with
  | cons r t =>
    obtain ⟨v2, rfl, r2⟩ := repL1 t
    exact ⟨_, _, rfl, r, r2⟩
/-! len -/
def lenD : D → Option Nat
  | .tup ds => some ds.length
  | .lst ds => some ds.length
  | .dI kvs => some kvs.length
  | .dP kvs => some kvs.length
  | _ => none
def cLen : DRC := fun ds m Kd => ∃ d n, ds = [d] ∧ lenD (look m d) = some n ∧ Kd (.int n) m
def rLenA (K : PySem.W.Frag) : List V → Hp → VK → Prop := fun xs H Q => (∃ p ys, xs = [.ref p] ∧ (SqL K H p ys ∨ SqT K H p ys) ∧ Q (.int ys.length) H) ∨
  (∃ a kvs, xs = [.ref a] ∧ Rd H a (.dK kvs) ∧ Q (.int kvs.length) H) ∨ ∃ a kvs, xs = [.ref a] ∧ Rd H a (.dT kvs) ∧ Q (.int kvs.length) H
theorem call_lenA : CallR X (.builtin "len") (rLenA X.K) := by
  refine call_len_seq.or (CallR.or ?_ ?_)
  · intro pins s σ H xs us Q I r ⟨a, kvs, e, ha, q⟩
    subst e
    obtain ⟨u, rfl, ru⟩ := vals1 r
    cases ru
    exact d_len I ha fun t s' I' => ⟨.int kvs.length, H, I', ⟨t, rfl⟩, q⟩
  · intro pins s σ H xs us Q I r ⟨a, kvs, e, hp, q⟩
    subst e
    obtain ⟨u, rfl, rx⟩ := vals1 r
    obtain rfl : u = .ref a := rx
    obtain ⟨z, hd, ys, rel, dd⟩ := dt_rd I.hok hp
    have hl : kvs.length = ys.length := Paired.length rel
    refine call_len_dictH hd dd (by rw [← hl]; rw [sizeLine_eq] at z; omega) ?_
    rw [← hl]
    exact ⟨.int ((kvs.length : Nat) : Int), H, I.tok _, ⟨_, rfl⟩, q⟩
theorem liftLen : LiftC K (rLenA K) cLen := fun σ δ H m vs ds Kd Q g r0 ⟨d, n, e, hn, h⟩ q => by
  subst e
  obtain ⟨v, rfl, r⟩ := repL1 r0
  have fin : ∀ k : Nat, n = k → Q (.int k) H := fun k e => by subst e; exact q _ H _ m (Keep.refl H) g (.int _) h
  generalize hc : look m d = c at hn
  cases c <;> first | (simp [lenD] at hn; done) | skip
  · obtain ⟨a, vs, rfl, h1, h2⟩ := look_tupI g.mem r hc
    exact .inl ⟨a, vs, rfl, .inr (.of h1), fin _ (by rw [← h2.length]; exact (Option.some.inj hn).symm)⟩
  · obtain ⟨a, vs, rfl, h1, h2⟩ := look_lst g.mem r hc
    exact .inl ⟨a, vs, rfl, .inl h1, fin _ (by rw [← h2.length]; exact (Option.some.inj hn).symm)⟩
  · obtain ⟨a, vs, rfl, h1, h2⟩ := look_dI g.mem r hc
    exact .inr (.inl ⟨a, vs, rfl, h1, fin _ (by rw [← h2.length]; exact (Option.some.inj hn).symm)⟩)
  · obtain ⟨a, vs, rfl, h1, h2⟩ := look_dP g.mem r hc
    exact .inr (.inr ⟨a, vs, rfl, h1, fin _ (by rw [← h2.length]; exact (Option.some.inj hn).symm)⟩)
/-! abs, int, max and min of two, of a list, any, all -/
def cAbs : DRC := fun ds m Kd => ∃ i, ds = [.int i] ∧ Kd (.int (if i < 0 then -i else i)) m
theorem liftAbs : LiftC K (fun xs H Q => ∃ i, xs = [.int i] ∧ Q (.int (if i < 0 then -i else i)) H) cAbs := fun σ δ H m vs ds Kd Q g r0 ⟨i, e, h⟩ q => by
  subst e
  obtain ⟨v, rfl, r⟩ := repL1 r0
  cases r
  exact ⟨i, rfl, q _ H _ m (Keep.refl H) g (.int _) h⟩
def cIntB : DRC := fun ds m Kd => ∃ k, ds = [.bl k] ∧ Kd (.int (if k then 1 else 0)) m
theorem liftIntB : LiftC K (fun xs H Q => (∃ i, xs = [.int i] ∧ Q (.int i) H) ∨ ∃ k, xs = [.bl k] ∧ Q (.int (if k then 1 else 0)) H) cIntB := fun σ δ H m vs ds Kd Q g r0 ⟨i, e, h⟩ q => by
  subst e
  obtain ⟨v, rfl, r⟩ := repL1 r0
  cases r
  exact .inr ⟨i, rfl, q _ H _ m (Keep.refl H) g (.int _) h⟩
def cMax2 : DRC := fun ds m Kd => ∃ i j, ds = [.int i, .int j] ∧ Kd (.int (if j > i then j else i)) m
theorem liftMax2 : LiftC K (fun xs H Q => ∃ i j, xs = [.int i, .int j] ∧ Q (.int (if j > i then j else i)) H) cMax2 := fun σ δ H m vs ds Kd Q g r0 ⟨i, j, e, h⟩ q => by
  subst e
  obtain ⟨v, v2, rfl, r, r2⟩ := repL2 r0
  cases r; cases r2
  exact ⟨i, j, rfl, q _ H _ m (Keep.refl H) g (.int _) h⟩
def cMin2 : DRC := fun ds m Kd => ∃ i j, ds = [.int i, .int j] ∧ Kd (.int (if j < i then j else i)) m
theorem liftMin2 : LiftC K (fun xs H Q => ∃ i j, xs = [.int i, .int j] ∧ Q (.int (if j < i then j else i)) H) cMin2 := fun σ δ H m vs ds Kd Q g r0 ⟨i, j, e, h⟩ q => by
  subst e
  obtain ⟨v, v2, rfl, r, r2⟩ := repL2 r0
  cases r; cases r2
  exact ⟨i, j, rfl, q _ H _ m (Keep.refl H) g (.int _) h⟩
def cMaxL : DRC := fun ds m Kd => ∃ (d : D) (ns : List Int), ds = [d] ∧ look m d = .lst (ns.map D.int) ∧ ns ≠ [] ∧ ∀ k, k ∈ ns → (∀ y, y ∈ ns → y ≤ k) → Kd (.int k) m
def cMinL : DRC := fun ds m Kd => ∃ (d : D) (ns : List Int), ds = [d] ∧ look m d = .lst (ns.map D.int) ∧ ns ≠ [] ∧ ∀ k, k ∈ ns → (∀ y, y ∈ ns → k ≤ y) → Kd (.int k) m
theorem liftMaxL : LiftC K (rMax K) cMaxL := fun σ δ H m vs ds Kd Q g r0 ⟨d, ns, e, hd, hn, h⟩ q => by
  subst e
  obtain ⟨v, rfl, r⟩ := repL1 r0
  obtain ⟨a, vs, rfl, h1, h2⟩ := look_lst g.mem r hd
  have := h2.ints
  subst this
  exact ⟨a, ns, rfl, h1, List.length_pos_iff.mpr hn, fun k hk hm => q _ H _ m (Keep.refl H) g (.int _) (h k hk hm)⟩
theorem liftMinL : LiftC K (rMin K) cMinL := fun σ δ H m vs ds Kd Q g r0 ⟨d, ns, e, hd, hn, h⟩ q => by
  subst e
  obtain ⟨v, rfl, r⟩ := repL1 r0
  obtain ⟨a, vs, rfl, h1, h2⟩ := look_lst g.mem r hd
  have := h2.ints
  subst this
  exact ⟨a, ns, rfl, h1, List.length_pos_iff.mpr hn, fun k hk hm => q _ H _ m (Keep.refl H) g (.int _) (h k hk hm)⟩
def cAny : DRC := fun ds m Kd => ∃ (d : D) (bs : List Bool), ds = [d] ∧ look m d = .lst (bs.map D.bl) ∧ Kd (.bl (bs.any id)) m
def cAll : DRC := fun ds m Kd => ∃ (d : D) (bs : List Bool), ds = [d] ∧ look m d = .lst (bs.map D.bl) ∧ Kd (.bl (bs.all id)) m
theorem liftAny : LiftC K (rAny K) cAny := fun σ δ H m vs ds Kd Q g r0 ⟨d, ns, e, hd, h⟩ q => by
  subst e
  obtain ⟨v, rfl, r⟩ := repL1 r0
  obtain ⟨a, vs, rfl, h1, h2⟩ := look_lst g.mem r hd
  have := h2.bls
  subst this
  exact ⟨a, ns, rfl, h1, q _ H _ m (Keep.refl H) g (.bl _) h⟩
theorem liftAll : LiftC K (rAll K) cAll := fun σ δ H m vs ds Kd Q g r0 ⟨d, ns, e, hd, h⟩ q => by
  subst e
  obtain ⟨v, rfl, r⟩ := repL1 r0
  obtain ⟨a, vs, rfl, h1, h2⟩ := look_lst g.mem r hd
  have := h2.bls
  subst this
  exact ⟨a, ns, rfl, h1, q _ H _ m (Keep.refl H) g (.bl _) h⟩
/-! isinstance -/
def tyD : D → Option String
  | .int _ => some "int"
  | .bl _ => some "bool"
  | .tup _ => some "tuple"
  | .str _ => some "str"
  | .non => some "NoneType"
  | _ => none
def cIsi : DRC := fun ds m Kd => ∃ d t n b, ds = [d, .ty n] ∧ tyD d = some t ∧ kitB t n = some b ∧ Kd (.bl b) m
theorem liftIsi : LiftC K (rIsi K) cIsi := fun σ δ H m vs ds Kd Q g r0 ⟨d, t, n, b, e, ht, hb, h⟩ q => by
  subst e
  obtain ⟨v, v2, rfl, r, r2⟩ := repL2 r0
  cases r2
  refine ⟨v, .ty n, .type t, .type n, b, rfl, .ty n, .base ?_, kit_ty hb, q _ H _ m (Keep.refl H) g (.bl _) h⟩
  cases r <;> first | (simp [tyD] at ht; done) | skip
  · cases ht; exact .non
  · cases ht; exact .bl _
  · cases ht; exact .int _
  · cases ht; exact .str _
  · cases ht; exact .tup (by assumption)
/-! tuple(list), list(tuple) -/
def cTup : DRC := fun ds m Kd => ∃ d xs, ds = [d] ∧ look m d = .lst xs ∧ Kd (.tup xs) m
theorem liftTup : LiftC K (fun xs H Q => ∃ p ys, xs = [.ref p] ∧ ((SqL K H p ys ∧ ∀ l, H l = none → Q (.ref l) (upd H l (.tup ys))) ∨ (SqT K H p ys ∧ Q (.ref p) H))) cTup := fun σ δ H m vs ds Kd Q g r0 ⟨d, xs, e, hd, h⟩ q => by
  subst e
  obtain ⟨v, rfl, r⟩ := repL1 r0
  obtain ⟨a, vs, rfl, h1, h2⟩ := look_lst g.mem r hd
  refine ⟨a, vs, rfl, .inl ⟨h1, fun l hl => ?_⟩⟩
  have kp := Keep.fresh (o := .tup vs) hl
  exact q (.ref l) _ (.tup xs) m kp (g.next kp (g.mem.fresh hl)) (.tup upd_same (h2.keep kp)) h
end
end MW

end
section
set_option Elab.async false
set_option linter.all false
set_option maxRecDepth 100000
/-! MwMut: cells written; methods of lists and dicts; conversions; tuples joined, cut, repeated. -/
namespace MW
open PySem PySem.Spec PyProof.Rows L2
theorem hu65 {A : Around} {k : Nat} (hr : Room k A) : A.units + 65 < cLine := by have := hr.un; omega

/-! ### dicts put, dropped -/
def putI (kvs : List (Int × D)) (k : Int) (d : D) : List (Int × D) :=
  if (kvs.any fun kv => decide (kv.1 = k)) = true then kvs.map (fun kv => if kv.1 = k then (kv.1, d) else kv) else kvs ++ [(k, d)]
def putP (kvs : List ((Int × Int) × D)) (k : Int × Int) (d : D) : List ((Int × Int) × D) :=
  if (kvs.any fun kv => decide (kv.1 = k)) = true then kvs.map (fun kv => if kv.1 = k then (kv.1, d) else kv) else kvs ++ [(k, d)]
def dropI (kvs : List (Int × D)) (k : Int) : List (Int × D) := kvs.filter fun kv => decide (kv.1 ≠ k)
section
variable {K : PySem.W.Frag} {H : Hp}
theorem repI_any {k : Int} : ∀ {kvs : List (Int × D)} {ws : List (Key × V)}, RepI K H kvs ws → (ws.any fun kv => decide (kv.1 = Sum.inl k)) = kvs.any fun kv => decide (kv.1 = k)
  | _, _, .nil => rfl
  | _, _, .cons r t => by rw [List.any_cons, List.any_cons, repI_any t, inl_eq]
theorem repI_app : ∀ {kvs kvs' : List (Int × D)} {ws ws' : List (Key × V)}, RepI K H kvs ws → RepI K H kvs' ws' → RepI K H (kvs ++ kvs') (ws ++ ws')
  | _, _, _, _, .nil, h => h
  | _, _, _, _, .cons r t, h => .cons r (repI_app t h)
theorem repI_repl {k : Int} {d : D} {v : V} (rd : Rep K H d v) : ∀ {kvs : List (Int × D)} {ws : List (Key × V)}, RepI K H kvs ws →
    RepI K H (kvs.map fun kv => if kv.1 = k then (kv.1, d) else kv) (ws.map fun kv => if kv.1 = Sum.inl k then (kv.1, v) else kv)
  | _, _, .nil => .nil
  | _, _, .cons (k := j) r t => by
    rw [List.map_cons, List.map_cons]
    by_cases h : j = k
    · subst h
      rw [if_pos rfl, if_pos rfl]
      exact .cons rd (repI_repl rd t)
    · rw [if_neg h, if_neg (fun z => h (Sum.inl.inj z))]
      exact .cons r (repI_repl rd t)
theorem repI_put {k : Int} {d : D} {v : V} (rd : Rep K H d v) {kvs : List (Int × D)} {ws : List (Key × V)} (r : RepI K H kvs ws) : RepI K H (putI kvs k d) (putK ws (Sum.inl k) v) := by
  unfold putI putK
  rw [repI_any r]
  split
  · exact repI_repl rd r
  · exact repI_app r (.cons rd .nil)
theorem repI_drop {k : Int} : ∀ {kvs : List (Int × D)} {ws : List (Key × V)}, RepI K H kvs ws → RepI K H (dropI kvs k) (dropK ws (Sum.inl k))
  | _, _, .nil => .nil
  | _, _, .cons (k := j) r t => by
    have ih := repI_drop (k := k) t
    unfold dropI dropK at ih ⊢
    by_cases h : j = k
    · subst h
      rw [List.filter_cons_of_neg (by simp), List.filter_cons_of_neg (by simp)]
      exact ih
    · rw [List.filter_cons_of_pos (by simpa using h), List.filter_cons_of_pos (by simpa using h)]
      exact .cons r ih
theorem repP_any {k : Int × Int} : ∀ {kvs : List ((Int × Int) × D)} {ws : List (List Key × V)}, RepP K H kvs ws → (ws.any fun kv => decide (kv.1 = pk k)) = kvs.any fun kv => decide (kv.1 = k)
  | _, _, .nil => rfl
  | _, _, .cons r t => by rw [List.any_cons, List.any_cons, repP_any t, pk_eq]
theorem repP_app : ∀ {kvs kvs' : List ((Int × Int) × D)} {ws ws' : List (List Key × V)}, RepP K H kvs ws → RepP K H kvs' ws' → RepP K H (kvs ++ kvs') (ws ++ ws')
  | _, _, _, _, .nil, h => h
  | _, _, _, _, .cons r t, h => .cons r (repP_app t h)
theorem repP_repl {k : Int × Int} {d : D} {v : V} (rd : Rep K H d v) : ∀ {kvs : List ((Int × Int) × D)} {ws : List (List Key × V)}, RepP K H kvs ws →
    RepP K H (kvs.map fun kv => if kv.1 = k then (kv.1, d) else kv) (ws.map fun kv => if kv.1 = pk k then (kv.1, v) else kv)
  | _, _, .nil => .nil
  | _, _, .cons (k := j) r t => by
    rw [List.map_cons, List.map_cons]
    by_cases h : j = k
    · subst h
      rw [if_pos rfl, if_pos rfl]
      exact .cons rd (repP_repl rd t)
    · have hn : ¬ pk j = pk k := by
        have := pk_eq j k
        rw [decide_eq_false h] at this
        exact of_decide_eq_false this
      rw [if_neg h, if_neg hn]
      exact .cons r (repP_repl rd t)
theorem repP_put {k : Int × Int} {d : D} {v : V} (rd : Rep K H d v) {kvs : List ((Int × Int) × D)} {ws : List (List Key × V)} (r : RepP K H kvs ws) : RepP K H (putP kvs k d) (putK ws (pk k) v) := by
  unfold putP putK
  rw [repP_any r]
  split
  · exact repP_repl rd r
  · exact repP_app r (.cons rd .nil)
end
/-- d[k] = v on a cell's content -/
def putD (c k d : D) : Option D := match c, k with
  | .dI kvs, .int k => if kvs.length < sizeLine then some (.dI (putI kvs k d)) else none
  | .dP kvs, .tup [.int p, .int q] => if kvs.length < sizeLine then some (.dP (putP kvs (p, q) d)) else none
  | _, _ => none

section
variable {X : Cx} {pos pos' apos cpos : Pos} {o i e f value : Expr} {es : List Expr}
theorem dput_ok {K : PySem.W.Frag} {H : Hp} {m : Mem} {p : Addr} {c c' dk d : D} {y v : V} (g : MOk K H m) (hp : m p = some c) (hc : putD c dk d = some c') (ry : Rep K H dk y) (rv : Rep K H d v) :
    ∃ H', DPut H p y v H' ∧ Keep H H' ∧ MOk K H' (updM m p c') := by
  have hcell := g p c hp
  unfold putD at hc
  split at hc
  · rename_i kvs k
    split at hc <;> rename_i hl
    · have e := Option.some.inj hc
      subst e
      obtain ⟨ws, h1, r⟩ := hcell
      cases ry
      have k1 : Keep H (upd H p (.dK (putK ws (Sum.inl k) v))) := Keep.over h1 id
      exact ⟨_, DPut.k (k := Sum.inl k) (v := v) h1 (by rw [← r.length]; exact hl), k1, g.put hp ⟨_, upd_same, repI_put (rv.keep k1) (r.keep k1)⟩⟩
    · cases hc
  · rename_i kvs i j
    split at hc <;> rename_i hl
    · have e := Option.some.inj hc
      subst e
      obtain ⟨ws, h1, r⟩ := hcell
      obtain ⟨t, rfl, ht⟩ := pair_rep ry
      have k1 : Keep H (upd H p (.dT (putK ws (pk (i, j)) v))) := Keep.over h1 id
      exact ⟨_, DPut.t (k := pk (i, j)) (v := v) h1 ht (by rw [← r.length]; exact hl), k1, g.put hp ⟨_, upd_same, repP_put (rv.keep k1) (r.keep k1)⟩⟩
    · cases hc
  · cases hc
/-- d[k] = v -/
def tDp (td ty tv : TD) : TDS := fun DD δ m => tv δ m fun d m1 => td δ m1 fun x m2 => ty δ m2 fun y m3 => ∃ p c c', x = .ref p ∧ m3 p = some c ∧ putD c y d = some c' ∧ DD.nx δ (updM m3 p c')
theorem qs_dput {td ty tv : TD} (hu : X.A.units + 1 < cLine) (ho : QE X o td) (hi : QE X i ty) (hv : QE X value tv) (hs : swapsWith value (some (.Subscript o i pos')) pos.line X.env = pure false := by rfl) :
    QS X (.Assign [.Subscript o i pos'] value pos) (tDp td ty tv) :=
  ps_imp (ps_dput hu ho hi hv hs) fun D σ H ⟨δ, m, DD, g, h, E⟩ => ⟨δ, m, _, g, h, fun v H1 d m1 k1 g1 r1 h1 => ⟨δ, m1, _, g1, h1, fun x H2 dx m2 k2 g2 r2 h2 => ⟨δ, m2, _, g2, h2, fun y H3 dy m3 k3 g3 r3 h3 => by
    obtain ⟨p, c, c', e, hp, hc, h3⟩ := h3
    subst e
    cases r2
    obtain ⟨H4, hput, k4, g4⟩ := dput_ok g3.mem hp hc r3 ((r1.keep k2).keep k3)
    exact ⟨p, H4, rfl, hput, E.nx σ H4 δ _ (((k1.trans k2).trans k3).trans k4) (g3.next k4 g4) h3⟩⟩⟩⟩
/-- xs[i] = v on a list's cell -/
def tLp (to ti tv : TD) : TDS := fun DD δ m => tv δ m fun d m1 => to δ m1 fun x m2 => ti δ m2 fun y m3 => ∃ p ds k j, x = .ref p ∧ y = .int k ∧ m3 p = some (.lst ds) ∧ ixN ds.length k = some j ∧ DD.nx δ (updM m3 p (.lst (ds.set j d)))
theorem qs_lput {to ti tv : TD} (ho : QE X o to) (hi : QE X i ti) (hv : QE X value tv) (hs : swapsWithSole [.Subscript o i pos'] value pos.line X.env = pure false := by rfl) (hw : swappedStores [.Subscript o i pos'] value X.env = pure none := by rfl)
    (h1 : (assignEach [.Subscript o i pos'] X.env).map (·.2) = [assign (.Subscript o i pos') X.env] := by rfl)
    (ha : ∀ v, assign (.Subscript o i pos') X.env v = (do
      let ov ← holding [v] (eval o X.env)
      let iv ← holding [v, ov] (eval i X.env)
      standAt pos'
      holding [v, ov, iv] (setItem ov iv v)
      release [v, ov, iv] []) := by intro _; rfl) : QS X (.Assign [.Subscript o i pos'] value pos) (tLp to ti tv) :=
  ps_imp (ps_asg hv (pg_sub ho hi set_list ha) hs hw h1) fun D σ H ⟨δ, m, DD, g, h, E⟩ => ⟨δ, m, _, g, h, fun v H1 d m1 k1 g1 r1 h1 => ⟨δ, m1, _, g1, h1, fun x H2 dx m2 k2 g2 r2 h2 => ⟨δ, m2, _, g2, h2, fun y H3 dy m3 k3 g3 r3 h3 => by
    obtain ⟨p, ds, k, j, e, e2, hp, hj, h3⟩ := h3
    subst e e2
    cases r2
    cases r3
    obtain ⟨vs, hv, ru⟩ := g3.mem p _ hp
    have k4 : Keep H3 (upd H3 p (.lst (vs.set j v))) := Keep.over hv id
    refine ⟨p, vs, k, j, rfl, rfl, hv, by rw [← ru.length]; exact hj, E.nx σ _ δ _ (((k1.trans k2).trans k3).trans k4) (g3.next k4 ?_) h3⟩
    exact g3.mem.put (c' := .lst (ds.set j d)) hp ⟨_, upd_same, RepL.set (((r1.keep k2).keep k3).keep k4) j (ru.keep k4)⟩⟩⟩⟩

/-! ### methods -/
def tAp (to : TD) (t : TDA) : TD := fun δ m Kd => to δ m fun x m1 => ∃ p c, x = .ref p ∧ m1 p = some (.lst c) ∧ t δ m1 fun ds m2 => ∃ d xs, ds = [d] ∧ m2 p = some (.lst xs) ∧ xs.length < sizeLine ∧ Kd .non (updM m2 p (.lst (xs ++ [d])))
theorem q_append {to : TD} {t : TDA} (ho : QE X o to) (ha : QA X (e :: es) t) (hbase : attributeBase o ("append" : Str) X.env (eval o X.env) = eval o X.env := by rfl)
    (hfew : ((backTo cpos (starEach (e :: es) X.env)).all (fun x => !x.1) && (backToKw cpos (keywordEach [] X.env)).all (fun x => x.1.isSome)
      && decide ((e :: es).length + ([] : List Keyword).length + (if ([] : List Keyword).isEmpty then 0 else 1) < 30)) = true := by rfl)
    (hline : (apos.endLine == cpos.line) = true := by rfl) (hs : starEach (e :: es) X.env = (false, eval e X.env) :: starEach es X.env := by rfl) (hplain : (backTo cpos (starEach es X.env)).any (·.1) = false := by rfl) :
    QE X (.Call (.Attribute o "append" apos) (e :: es) [] cpos) (tAp to t) :=
  pe_imp (pe_bm PySem.F.plainAttrs_list PySem.F.slot_list_append PySem.F.type_list_append mt_append ho ha hbase hfew hline hs hplain) fun σ H Q ⟨δ, m, Kd, g, h, q⟩ => ⟨δ, m, _, g, h, fun v H1 x m1 k1 g1 r1 ⟨p, c, e, hp, h1⟩ => by
    subst e
    cases r1
    obtain ⟨vs0, hv0, _⟩ := g1.mem p _ hp
    refine ⟨.inl ⟨rfl, vs0, .of hv0⟩, δ, m1, _, g1, h1, fun us H2 ds m2 k2 g2 r2 ⟨d, xs, e, hp2, hl, h2⟩ => ?_⟩
    subst e
    obtain ⟨u, rfl, ru⟩ := repL1 r2
    obtain ⟨vs, hv, rv⟩ := g2.mem p _ hp2
    have k3 : Keep H2 (upd H2 p (.lst (vs ++ [u]))) := Keep.over hv id
    refine ⟨p, vs, u, rfl, rfl, hv, by rw [← rv.length]; exact hl, q .non _ .non _ ((k1.trans k2).trans k3) (g2.next k3 (g2.mem.put (c' := .lst (xs ++ [d])) hp2 ⟨_, upd_same, (rv.keep k3).app (.cons (ru.keep k3) .nil)⟩)) .non h2⟩⟩
def tPo (to : TD) : TD := fun δ m Kd => to δ m fun x m1 => ∃ p xs d, x = .ref p ∧ m1 p = some (.lst xs) ∧ xs[xs.length - 1]? = some d ∧ Kd d (updM m1 p (.lst xs.dropLast))
theorem q_pop {to : TD} (ho : QE X o to) (hbase : attributeBase o ("pop" : Str) X.env (eval o X.env) = eval o X.env := by rfl) (hline : (apos.endLine == cpos.line) = true := by rfl) : QE X (.Call (.Attribute o "pop" apos) [] [] cpos) (tPo to) :=
  pe_imp (pe_bm0 PySem.F.plainAttrs_list PySem.F.slot_list_pop PySem.F.type_list_pop mt_pop ho hbase hline) fun σ H Q ⟨δ, m, Kd, g, h, q⟩ => ⟨δ, m, _, g, h, fun v H1 x m1 k1 g1 r1 ⟨p, xs, d, e, hp, hd, h1⟩ => by
    subst e
    cases r1
    obtain ⟨vs, hv, rv⟩ := g1.mem p _ hp
    obtain ⟨y, hy, ry⟩ := rv.get hd
    have k2 : Keep H1 (upd H1 p (.lst vs.dropLast)) := Keep.over hv id
    exact ⟨.inl ⟨rfl, vs, .of hv⟩, p, vs, y, rfl, rfl, hv, by rw [← rv.length]; exact hy, q y _ d _ (k1.trans k2) (g1.next k2 (g1.mem.put (c' := .lst xs.dropLast) hp ⟨_, upd_same, rv.dropLast.keep k2⟩)) (ry.keep k2) h1⟩⟩
def tIn_ (to : TD) (t : TDA) : TD := fun δ m Kd => to δ m fun x m1 => ∃ c, look m1 x = .lst c ∧ t δ m1 fun ds m2 => ∃ (d : D) (xs : List D) (j : Nat) (z : D), ds = [d] ∧ look m2 x = .lst xs ∧ xs.all (okD 4) = true ∧ okD 4 d = true ∧ xs[j]? = some z ∧ eqD z d = true ∧ (∀ (i : Nat) (z' : D), i < j → xs[i]? = some z' → eqD z' d = false) ∧ Kd (.int (j : Nat)) m2
theorem q_index {to : TD} {t : TDA} (hu : X.A.units + 65 < cLine) (ho : QE X o to) (ha : QA X (e :: es) t) (hbase : attributeBase o ("index" : Str) X.env (eval o X.env) = eval o X.env := by rfl)
    (hfew : ((backTo cpos (starEach (e :: es) X.env)).all (fun x => !x.1) && (backToKw cpos (keywordEach [] X.env)).all (fun x => x.1.isSome)
      && decide ((e :: es).length + ([] : List Keyword).length + (if ([] : List Keyword).isEmpty then 0 else 1) < 30)) = true := by rfl)
    (hline : (apos.endLine == cpos.line) = true := by rfl) (hs : starEach (e :: es) X.env = (false, eval e X.env) :: starEach es X.env := by rfl) (hplain : (backTo cpos (starEach es X.env)).any (·.1) = false := by rfl) :
    QE X (.Call (.Attribute o "index" apos) (e :: es) [] cpos) (tIn_ to t) :=
  pe_imp (pe_bm PySem.F.plainAttrs_list PySem.F.slot_list_index PySem.F.type_list_index (mt_indexD hu) ho ha hbase hfew hline hs hplain) fun σ H Q ⟨δ, m, Kd, g, h, q⟩ => ⟨δ, m, _, g, h, fun v H1 x m1 k1 g1 r1 ⟨c, hc, h1⟩ => by
    obtain ⟨a, vs0, rfl, hv0, _⟩ := look_lst g1.mem r1 hc
    refine ⟨.inl ⟨rfl, vs0, hv0⟩, δ, m1, _, g1, h1, fun us H2 ds m2 k2 g2 r2 ⟨d, xs, j, z, e, hx, ox, od, hz, hzd, hno, h2⟩ => ?_⟩
    subst e
    obtain ⟨u, rfl, ru⟩ := repL1 r2
    have r1' := r1.keep k2
    obtain ⟨a', vs, ea, hv, rv⟩ := look_lst g2.mem r1' hx
    cases ea
    have oL : okD 5 (.lst xs) = true := by simpa [okD] using ox
    have dl : Dp X.K H2 (.ref a) (.list (toPs xs)) := by
      have all : ∀ {ds : List D} {vs : List V}, ds.all (okD 4) = true → RepL X.K H2 ds vs → DpAll X.K H2 vs (toPs ds) := by
        intro ds
        induction ds with
        | nil => intro vs _ r; cases r; simp only [toPs]; exact .nil
        | cons d ds ihd =>
          intro vs h r
          rw [List.all_cons, Bool.and_eq_true] at h
          cases r with
          | cons r t => simp only [toPs]; exact .cons (rep_dp 4 h.1 r) (ihd h.2 t)
      exact .lst hv (all ox rv)
    have get : ∀ (i : Nat) (p : PyData), (toPs xs)[i]? = some p → ∃ d, xs[i]? = some d ∧ p = toP d := fun i p hp => by
      rw [toPs_map, List.getElem?_map] at hp
      cases e : xs[i]? with
      | none => rw [e] at hp; cases hp
      | some d => rw [e] at hp; exact ⟨d, rfl, (Option.some.inj hp).symm⟩
    refine ⟨a, u, toP d, toPs xs, j, toP z, rfl, rfl, dl, rep_dp 4 od ru, ?_, okD_shaped od (by decide), by rw [toPs_map, List.getElem?_map, hz]; rfl, hzd, fun i z' hi hz' => ?_, q _ H2 _ m2 (k1.trans k2) g2 (.int _) h2⟩
    · have := okD_shaped oL (by decide)
      simpa [toP] using this
    · obtain ⟨d', hd', rfl⟩ := get i z' hz'
      exact hno i d' hi hd'⟩
/-! dict.get, pop, setdefault (keys: whole numbers) -/
def tGt (td ty : TD) : TD := fun δ m Kd => td δ m fun x m1 => ∃ c, look m1 x = .dI c ∧ ty δ m1 fun y m2 => ∃ kvs k, look m2 x = .dI kvs ∧ y = .int k ∧ Kd ((getI kvs k).getD .non) m2
theorem q_get {td ty : TD} (hu : X.A.units + 1 < cLine) (ho : QE X o td) (he : QE X e ty) (mm : M1 X o "get" apos e cpos) : QE X (.Call (.Attribute o "get" apos) [e] [] cpos) (tGt td ty) :=
  pe_imp (pe_dget1 hu ho he mm) fun σ H Q ⟨δ, m, Kd, g, h, q⟩ => ⟨δ, m, _, g, h, fun v H1 x m1 k1 g1 r1 ⟨c, hc, h1⟩ => by
    obtain ⟨a, vs0, rfl, hv0, _⟩ := look_dI g1.mem r1 hc
    refine ⟨a, rfl, .inl ⟨_, hv0⟩, δ, m1, _, g1, h1, fun u H2 y m2 k2 g2 r2 ⟨kvs, k, hx, e, h2⟩ => ?_⟩
    subst e
    cases r2
    obtain ⟨a', vs, ea, hv, rv⟩ := look_dI g2.mem (r1.keep k2) hx
    cases ea
    have rr := repI_val (k := k) rv
    refine ⟨_, dget_I k hv, q _ H2 _ m2 (k1.trans k2) g2 ?_ h2⟩
    cases e1 : getI kvs k <;> cases e2 : valV vs (Sum.inl k) <;> rw [e1, e2] at rr
    · exact .non
    · exact (show False from rr).elim
    · exact (show False from rr).elim
    · exact rr⟩
def tPk (td ty : TD) : TD := fun δ m Kd => td δ m fun x m1 => ∃ p c, x = .ref p ∧ m1 p = some (.dI c) ∧ ty δ m1 fun y m2 => ∃ kvs k d, m2 p = some (.dI kvs) ∧ y = .int k ∧ getI kvs k = some d ∧ Kd d (updM m2 p (.dI (dropI kvs k)))
theorem q_dpop {td ty : TD} (ho : QE X o td) (he : QE X e ty) (mm : M1 X o "pop" apos e cpos) : QE X (.Call (.Attribute o "pop" apos) [e] [] cpos) (tPk td ty) :=
  pe_imp (pe_dpop1 ho he mm) fun σ H Q ⟨δ, m, Kd, g, h, q⟩ => ⟨δ, m, _, g, h, fun v H1 x m1 k1 g1 r1 ⟨p, c, e, hp, h1⟩ => by
    subst e
    cases r1
    obtain ⟨vs0, hv0, _⟩ := g1.mem p _ hp
    refine ⟨p, rfl, .inl ⟨_, .of hv0⟩, δ, m1, _, g1, h1, fun u H2 y m2 k2 g2 r2 ⟨kvs, k, d, hp2, e, hd, h2⟩ => ?_⟩
    subst e
    cases r2
    obtain ⟨vs, hv, rv⟩ := g2.mem p _ hp2
    obtain ⟨w, hw, rw_⟩ := (repI_val (k := k) rv).some_of hd
    have k3 : Keep H2 (upd H2 p (.dK (dropK vs (Sum.inl k)))) := Keep.over hv id
    exact ⟨vs, Sum.inl k, w, hv, rfl, hw, q w _ d _ ((k1.trans k2).trans k3) (g2.next k3 (g2.mem.put (c' := .dI (dropI kvs k)) hp2 ⟨_, upd_same, (repI_drop rv).keep k3⟩)) (rw_.keep k3) h2⟩⟩
def tSd (td ty tx : TD) : TD := fun δ m Kd => td δ m fun x m1 => ∃ p c, x = .ref p ∧ m1 p = some (.dI c) ∧ ty δ m1 fun y m2 => tx δ m2 fun z m3 => ∃ kvs k, m3 p = some (.dI kvs) ∧ y = .int k ∧ kvs.length < sizeLine ∧
  (∀ d, getI kvs k = some d → Kd d m3) ∧ (getI kvs k = none → Kd z (updM m3 p (.dI (putI kvs k z))))
theorem q_setd {td ty tx : TD} (ho : QE X o td) (he : QE X e ty) (hf : QE X f tx) (mm : M2 X o "setdefault" apos e f cpos) : QE X (.Call (.Attribute o "setdefault" apos) [e, f] [] cpos) (tSd td ty tx) :=
  pe_imp (pe_dsetd ho he hf mm) fun σ H Q ⟨δ, m, Kd, g, h, q⟩ => ⟨δ, m, _, g, h, fun v H1 x m1 k1 g1 r1 ⟨p, c, e, hp, h1⟩ => by
    subst e
    cases r1
    obtain ⟨vs0, hv0, _⟩ := g1.mem p _ hp
    refine ⟨p, rfl, .inl ⟨_, .of hv0⟩, δ, m1, _, g1, h1, fun u H2 y m2 k2 g2 r2 h2 => ⟨δ, m2, _, g2, h2, fun w H3 z m3 k3 g3 r3 ⟨kvs, k, hp3, e, hl, hs, hn⟩ => ?_⟩⟩
    subst e
    cases r2
    obtain ⟨vs, hv, rv⟩ := g3.mem p _ hp3
    have rr := repI_val (k := k) rv
    have kk := (k1.trans k2).trans k3
    refine ⟨vs, Sum.inl k, hv, rfl, by rw [← rv.length]; exact hl, fun v' hv' => ?_, fun hn' => ?_⟩
    · rw [hv'] at rr
      cases e1 : getI kvs k with
      | none => rw [e1] at rr; exact (show False from rr).elim
      | some d => rw [e1] at rr; exact q v' H3 d m3 kk g3 rr (hs d e1)
    · rw [hn'] at rr
      cases e1 : getI kvs k with
      | some d => rw [e1] at rr; exact (show False from rr).elim
      | none =>
        have k4 : Keep H3 (upd H3 p (.dK (putK vs (Sum.inl k) w))) := Keep.over hv id
        exact q w _ z _ (kk.trans k4) (g3.next k4 (g3.mem.put (c' := .dI (putI kvs k z)) hp3 ⟨_, upd_same, repI_put (r3.keep k4) (rv.keep k4)⟩)) (r3.keep k4) (hn e1)⟩
end
end MW

end
section
set_option Elab.async false
set_option linter.all false
set_option maxRecDepth 100000
/-! MwEnum: enumerate over a tuple. -/
namespace MW
open PySem PySem.Spec PyProof.Rows L2

set_option maxHeartbeats 1000000 in
theorem meets_enumerate_new1 {v : Value} {o : Obj} {H : Heap → Prop} (B : Begins v o H) :
    Meets (Builtin.«enumerate.__new__» ⟨[.type "enumerate", v], []⟩) (fun _ R s => H s.heap ∧
      R (.ok (.ret (.ref (s.heap.push o).objs.size))) { s with heap := (s.heap.push o).push { cls := .type "enumerate", data := .fields #[.none, .bool false, .ref s.heap.objs.size, rawInt 0, .none, .none] } }) :=
  .of_wp fun prog w A R s h => by
    obtain ⟨hp, g, d, tk, os⟩ := s; obtain ⟨h1, h⟩ := h
    have hsub := sub_enumerate
    have q1 : ∀ {A' : Around} {E : Value → Shared → Prop} {Q : Value → Shared → Prop}, Q (.ref hp.objs.size) ⟨hp.push o, g, d, tk, os⟩ → wpAny (model prog w) A' (pyIter v) Q E ⟨hp, g, d, tk, os⟩ :=
      fun q => B.iter prog w _ _ ⟨hp, g, d, tk, os⟩ _ h1 q
    wp_walk using q1
    refine wpAny_stack_any fun st => wpAny_pure ?_
    split
    · rename_i c _ _ _ _ _
      cases (c == Value.type "enumerate")
      · wp_walk using q1
        exact ⟨_, rfl, h⟩
      · wp_walk using q1
        exact ⟨_, rfl, h⟩
    · wp_walk using q1
      exact ⟨_, rfl, h⟩

section
variable {prog : Program} {w : World} {A : Around} {E : Value → Shared → Prop} {s : Shared}
theorem enum_begins1 {v : Value} {o : Obj} {H : Heap → Prop} {Q : Value → Shared → Prop} (B : Begins v o H) (h1 : H s.heap)
    (h : ∀ h', IsEnum h' (s.heap.objs.size + 1) s.heap.objs.size 0 .none → h'.get? s.heap.objs.size = some o → h'.objs.size = s.heap.objs.size + 2 →
      (∀ b o, s.heap.get? b = some o → h'.get? b = some o) → Q (.ref (s.heap.objs.size + 1)) { s with heap := h' }) :
    wpAny (model prog w) A (call (.type "enumerate") [v]) Q E s := by
  refine callType_new F.called_enumerate (by decide) (F.typeCall_enumerate_1 _) (F.newCall_enumerate_1 _) (fun obj => F.args_object_init_2 obj _) F.entry_enumerate_new
    (meets_enumerate_new1 B) ⟨h1, ?_⟩
  have hz : (s.heap.push o).objs.size = s.heap.objs.size + 1 := Heap.size_push ..
  show _ ∧ _
  rw [hz]
  have he : IsEnum ((s.heap.push o).push { cls := .type "enumerate", data := .fields #[.none, .bool false, .ref s.heap.objs.size, rawInt 0, .none, .none] }) (s.heap.objs.size + 1) s.heap.objs.size 0 .none := by
    have := Heap.get?_push_size (s.heap.push o) (o := { cls := .type "enumerate", data := .fields #[.none, .bool false, .ref s.heap.objs.size, rawInt 0, .none, .none] }) rfl
    rw [hz] at this; exact this
  refine ⟨⟨_, he, rfl⟩, h _ he (Heap.get?_push_of_some _ (Heap.get?_push_size _ B.free)) (by rw [Heap.size_push, hz]) fun b o x => Heap.get?_push_of_some _ (Heap.get?_push_of_some _ x)⟩
end
theorem enum_endT {prog : Program} {w : World} {A : Around} {E : Value → Shared → Prop} {s : Shared} {e it a : Addr} {i : Nat} {old : Value} {its : List Value} {k : Int} {Q : Option Value → Shared → Prop} (hh : A.handled = none) (he : IsEnum s.heap e it k old) (hit : s.heap.IsTupleIter it a i) (p : IsTup s.heap a its.toArray) (hai : a ≠ it) (hi : its.length ≤ i)
    (hQ : ∀ h', Heap.ExtBut it s.heap h' → Q none { s with heap := h' }) : wpAny (model prog w) A (pyNext (.ref e)) Q E s := by
  have hT : s.TypeIs (.ref e) "enumerate" := ⟨_, he, rfl⟩
  unfold pyNext
  refine wpAny_bind (wpAny_attempt (wpAny_callSpecial?_slot (name := Str.ofString "__next__") hT F.slot_enumerate_next
    (wpAny_call_entry F.slot_enumerate_next hT F.entry_enumerate_next ?_ (F.args_enumerate_next_1 _))))
  show wpAny _ _ (field (.ref e) 2 >>= _) _ _ _
  refine wpAny_bind (wpAny_field he rfl (x := .ref it) rfl ?_)
  refine wpAny_bind (wpAny_nextOf_tuple_end (A := A.in1) hh hit (show s.heap.IsTuple a its.toArray from p) (by simp; omega) fun h' x he' hx' => ?_)
  obtain ⟨o, ho, hc⟩ := hx'
  refine wpAny_bind (wpAny_isInstance (T := "StopIteration") (b := true) ⟨o, ho, hc⟩ isSubtype_stop ?_)
  exact wpAny_pure (hQ _ he')
/-- the tuple at a, its items in new pairs with their places -/
def IteT (K : PySem.W.Frag) (a : Addr) : It :=
  ⟨fun i H => ∃ (xs : List V) (x : V), SqT K H a xs ∧ xs[i]? = some x, fun i H v H' => ∃ T x, v = .ref T ∧ H T = none ∧ H' = upd H T (.tup [.int (i : Nat), x]) ∧ ∀ xs, SqT K H a xs → xs[i]? = some x, fun i H => ∃ xs : List V, SqT K H a xs ∧ xs.length ≤ i⟩
theorem turn_enumT {P : Program} {w : World} {K : PySem.W.Frag} {elts : List Expr} {kk : Nat} {tpos : Pos} (a e it : Addr) (hai : a ≠ it) (hea : e ≠ a) :
    Turn P w K (.Tuple elts kk tpos) (IteT K a) [e, it] e (fun i h => (∃ old, IsEnum h e it ((i : Nat) : Int) old) ∧ h.IsTupleIter it a i ∧ e ≠ it) where
  mem := by simp
  obj := fun i h st b hb => by
    obtain ⟨⟨old, he⟩, ⟨o, ho, hc, hd⟩, _⟩ := st
    have e' : b = e ∨ b = it := by simpa using hb
    rcases e' with z | z
    · rw [z]; exact ⟨_, he, fun v q => nomatch q⟩
    · rw [z]; exact ⟨o, ho, fun v q => by rw [hd] at q; cases q⟩
  keep := fun i h h' st k => let ⟨⟨old, he⟩, hi, hne⟩ := st; ⟨⟨old, k e (by simp) _ he⟩, hi.at fun o q => k it (by simp) o q, hne⟩
  item := by
    intro X hP hw hK hc i pins s σ H E I hf st hg
    subst hP hw hK
    obtain ⟨⟨old, he⟩, hit, hne⟩ := st
    obtain ⟨xs, x, hq, hx⟩ := hg
    obtain ⟨its, rv, p, hz⟩ := I.tuple hq
    obtain ⟨u, hu, ru⟩ := rv.get hx
    have hel : e < s.heap.objs.size := Heap.lt_size he
    have hil : it < s.heap.objs.size := by obtain ⟨_, q, _⟩ := hit; exact Heap.lt_size q
    have hef : e ∉ [it, a] := by
      intro z
      rcases List.mem_cons.mp z with z | z
      · exact hne z
      · exact hea (List.mem_singleton.mp z)
    have hlt : i < its.toArray.size := by rw [List.size_toArray, ← rv.length]; exact (List.getElem?_eq_some_iff.mp hx).1
    refine wpAny_pyNext_enum_itemD (Draws.tuple (A := X.A.in1) (I.ok.hd hc) it a hai its.toArray) he ⟨hit, p⟩ hlt hne hef fun x' h' tk hx' ho hst' hT hsz hk => ?_
    have ex : x' = u := by
      have q : its[i]? = some x' := by simpa using hx'
      rw [hu] at q
      exact (Option.some.inj q).symm
    subst ex
    refine ⟨_, rfl, wpAny_letOwnedTupleGo_enum (s := { s with heap := h', toks := tk + 1 }) ho fun h'' he' sb => ?_⟩
    have hT2 : h''.get? s.heap.objs.size = some { cls := .type "tuple", data := .seq #[.int i tk, x'] } := (sb.2 _ (Nat.ne_of_gt hel)).trans hT
    have new : ObjOk X.prog X.w (upd H s.heap.objs.size (.tup [.int (i : Nat), x])) h'' s.heap.objs.size (.tup [.int (i : Nat), x]) :=
      ⟨by show 2 ≤ sizeLine; decide, [.int i tk, x'], .cons ⟨_, rfl⟩ (.cons ru .nil), ⟨_, hT2, rfl, _, rfl⟩⟩
    have I1 : Inv X pins σ (upd H s.heap.objs.size (.tup [.int (i : Nat), x])) { s with heap := h'', toks := tk + 1 } :=
      I.turnedNew (ch := [e, it]) (fun b ob hb q => (sb.2 b (fun z => hb (by simp [z]))).trans (hk b ob (fun z => hb (by simp [z])) (fun z => hb (by simp [z])) q)) hf (Nat.le_refl _) new
    refine ⟨.ref s.heap.objs.size, _, I1, rfl, ⟨_, x, rfl, I.hok.fresh (Nat.le_refl _), rfl, fun ys hy => by rw [I.tuple_inj hy hq]; exact hx⟩, ⟨⟨x', ?_⟩, hst'.1.at fun o q => (sb.2 it (Ne.symm hne)).trans q, hne⟩, fun b hb => ?_⟩
    · have e1 : ((i + 1 : Nat) : Int) = (i : Int) + 1 := by omega
      rw [e1]; exact he'
    · have hb' : b < s.heap.objs.size := by
        have e' : b = e ∨ b = it := by simpa using hb
        rcases e' with z | z
        · rw [z]; exact hel
        · rw [z]; exact hil
      rw [upd_ne (Nat.ne_of_lt hb')]
      exact (hf b hb).1
  done := by
    intro X hP hw hK hc i pins s σ H E I hf st hg
    subst hP hw hK
    obtain ⟨⟨old, he⟩, hit, hne⟩ := st
    obtain ⟨xs, hq, hx⟩ := hg
    obtain ⟨its, rv, p, hz⟩ := I.tuple hq
    obtain ⟨f0, f1, f2, f3, f4, f5⟩ := hf it (by simp)
    have hl := rv.length
    exact enum_endT (I.ok.hd hc) he hit p hai (by omega) fun h' eb => ⟨rfl, I.turned (t' := s.toks) (fun b o hb q => eb b o hb q) f0 f1 f3 f4 f5⟩
  self := fun A i s Q E st h => let ⟨⟨_, he⟩, _⟩ := st; wpAny_pyIter_enum he h
def iEnumT (K : PySem.W.Frag) (ta : TA) : TI := fun σ H R => ta σ H fun vs H1 => ∃ a xs, vs = [.ref a] ∧ SqT K H1 a xs ∧ R (IteT K a) H1
theorem pi_enumT {X : Cx} {e : Expr} {ta : TA} {p pos tpos : Pos} {elts : List Expr} {kk : Nat} (hg : Gl X "enumerate") (hm : X.mg "enumerate" = none) (ha : PA X [e] ta) (hs : starEach [e] X.env = [(false, eval e X.env)] := by rfl) :
    PI X (.Tuple elts kk tpos) (.Call (.Name "enumerate" p) [e] [] pos) (iEnumT X.K ta) := by
  refine ⟨fun pins s σ H R I h => ?_⟩
  refine Call_ (ld_blt I hg hm boot_enumerate (PyProof.Rows.callWith_type1 (thn (ha.run pos pins s σ H _ I h) fun us s1 ⟨vs, H1, I1, r1, q1⟩ => ?_) hs rfl))
  obtain ⟨a, xs, ex, hq, q⟩ := q1
  subst ex
  cases r1 with
  | cons r rr =>
    cases rr
    cases r
    obtain ⟨its, rv, p', hz⟩ := I1.tuple hq
    refine enum_begins1 (begins_tuple a its.toArray) (show s1.heap.IsTuple a its.toArray from p') fun h' he hit hsz hk => wpAny_pyIter_enum he ?_
    have I2 : Inv X pins σ H1 { s1 with heap := h' } := I1.kept (t' := s1.toks) hk
    have hal : a < s1.heap.objs.size := p'.lt
    refine ⟨s1.heap.objs.size + 1, [s1.heap.objs.size + 1, s1.heap.objs.size], _, _, H1, rfl, I2, turn_enumT a (s1.heap.objs.size + 1) s1.heap.objs.size (Nat.ne_of_lt hal) (Nat.ne_of_gt (Nat.lt_succ_of_lt hal)), ⟨⟨.none, he⟩, ⟨_, hit, rfl, rfl⟩, Nat.succ_ne_self _⟩, fun b hb => ?_, q⟩
    have e' : b = s1.heap.objs.size + 1 ∨ b = s1.heap.objs.size := by simpa using hb
    have hle : s1.heap.objs.size ≤ b := by
      rcases e' with z | z
      · rw [z]; exact Nat.le_add_right _ _
      · rw [z]; exact Nat.le_refl _
    exact I1.fpOk hle (I1.hok.fresh hle)
/-- (0, x), (1, y), .. -/
def enD (xs : List D) : List D := xs.mapIdx fun i x => .tup [.int (i : Nat), x]
def iEn (t : TDA) : TDI := fun δ m Rd => t δ m fun ds m1 => ∃ xs, ds = [.tup xs] ∧ Rd (enD xs) m1
theorem walk_e {K : PySem.W.Frag} {H : Hp} {a : Addr} {vs : List V} {xs : List D} (h : H a = some (.tup vs)) (r : RepL K H xs vs) : WalkD K (IteT K a) (enD xs) H where
  goes := fun i H' k hi => by
    have hl := r.length
    unfold enD at hi
    rw [List.length_mapIdx] at hi
    exact ⟨vs, vs[i]'(by omega), .of (k _ _ h trivial), by simp⟩
  stops := fun H' k => ⟨vs, .of (k _ _ h trivial), by unfold enD; rw [List.length_mapIdx]; exact Nat.le_of_eq r.length.symm⟩
  yields := fun i H' x H2 d k y hx => by
    obtain ⟨T, z, rfl, hT, rfl, hy⟩ := y
    unfold enD at hx
    rw [List.getElem?_mapIdx] at hx
    cases e : xs[i]? with
    | none => rw [e] at hx; cases hx
    | some d0 =>
      rw [e] at hx
      have ed := Option.some.inj hx
      subst ed
      obtain ⟨v, hv, rv⟩ := r.get e
      have e2 := hy vs (.of (k _ _ h trivial))
      rw [hv] at e2
      have e2 := Option.some.inj e2
      subst e2
      have k2 : Keep H' (upd H' T (.tup [.int (i : Nat), v])) := Keep.fresh hT
      exact ⟨k2, fun m q => q.fresh hT, .tup upd_same (.cons (.int _) (.cons ((rv.keep k).keep k2) .nil))⟩
theorem qi_enum {X : Cx} {e : Expr} {t : TDA} {p pos tpos : Pos} {elts : List Expr} {kk : Nat} (hg : Gl X "enumerate") (hm : X.mg "enumerate" = none) (ha : QA X [e] t) (hs : starEach [e] X.env = [(false, eval e X.env)] := by rfl) :
    QI X (.Tuple elts kk tpos) (.Call (.Name "enumerate" p) [e] [] pos) (iEn t) :=
  pi_imp (pi_enumT hg hm ha hs) fun σ H R ⟨δ, m, Rd, g, h, q⟩ => ⟨δ, m, _, g, h, fun vs H1 ds m1 k g1 r ⟨xs, e, h1⟩ => by
    subst e
    obtain ⟨v, rfl, rv⟩ := repL1 r
    obtain ⟨a, us, rfl, ha, ru⟩ := rv.tupI
    exact ⟨a, us, rfl, .of ha, q H1 _ m1 _ k g1 (walk_e ha ru) h1⟩⟩
end MW

end
section
set_option Elab.async false
set_option linter.all false
set_option maxRecDepth 100000
/-! MwComp: comprehensions (list, dict) over data; what is walked: dicts' keys, items. -/
namespace MW
open PySem PySem.Spec PyProof.Rows L2

theorem wipe_wipe (σ : L2.St) (vs : List Nat) : L2.wipe (L2.wipe σ vs) vs = L2.wipe σ vs := by
  have key : ∀ us : List Nat, (∀ u ∈ us, u ∈ vs) → L2.wipe (L2.wipe σ us) vs = L2.wipe σ vs := by
    intro us
    induction us with
    | nil => intro _; rfl
    | cons u us ih =>
      intro h
      show L2.wipe ((L2.wipe σ us).set u none) vs = _
      rw [wipe_set_comm _ u none vs (h u (List.mem_cons_self ..)), ih fun w hw => h w (List.mem_cons_of_mem _ hw)]
  exact key vs fun _ h => h

section
variable {X : Cx} {pos : Pos} {e c : Expr}
/-! ### tests of a clause -/
abbrev QTs (X : Cx) (ifs : List Expr) (T : TDT) : Prop := PTs X ifs (lowT X.K T)
def tYs : TDT := fun _ m Kd => Kd true m
theorem pts_imp {ifs : List Expr} {t t' : TT} (h : PTs X ifs t) (i : ∀ σ H Q, t' σ H Q → t σ H Q) : PTs X ifs t' := ⟨fun pins s σ H Q I q => h.run pins s σ H Q I (i σ H Q q)⟩
theorem qts_nil : QTs X [] tYs := pts_imp pts_nil fun σ H Q ⟨δ, m, Kd, g, h, q⟩ => q true H m (Keep.refl H) g h
theorem qts_one {t : TDT} (h : QT X c t) : QTs X [c] t := pts_one h

/-! ### [e for target in iter if ..] -/
def LCc (vs : List Nat) (G : TDG) (tt : TDT) (te : TD) (δ : Sl) (Kd : D → Mem → Prop) (xs : List D) (m1 : Mem) : Prop := xs.length ≤ sizeLine ∧ ∀ p, m1 p = none → ∃ Iv : Nat → Mem → Prop, Iv 0 (updM m1 p (.lst [])) ∧
  (∀ i x m, xs[i]? = some x → Iv i m → G x (wipeD δ vs) m fun δ' m' => tt δ' m' fun b m2 => (b = true → te δ' m2 fun d m3 => ∃ acc, m3 p = some (.lst acc) ∧ acc.length < sizeLine ∧ Iv (i + 1) (updM m3 p (.lst (acc ++ [d])))) ∧ (b = false → Iv (i + 1) m2)) ∧
  ∀ m, Iv xs.length m → ∃ acc, m p = some (.lst acc) ∧ Kd (.lst acc) (delM m p)
def tLC (I : TDI) (vs : List Nat) (G : TDG) (tt : TDT) (te : TD) : TD := fun δ m Kd => I δ m (LCc vs G tt te δ Kd)
theorem lc_low {K : PySem.W.Frag} {I : TDI} {G : TDG} {tt : TDT} {te : TD} {vs : List Nat} {σ : L2.St} {H : Hp} {Q Q0 : VK} (h : low K (tLC I vs G tt te) σ H Q) (hQ : ∀ p us H2, Keep H H2 → H2 p = some (.lst us) → (∀ o, Q (.ref p) (upd H2 p (.frz o (.lst us)))) → Q0 (.ref p) H2) :
    tLc (lowI K I) (lowG K vs G) (lowT K tt) (low K te) vs σ H Q0 := by
  obtain ⟨δ, m, Kd, g, h, q⟩ := h
  refine ⟨δ, m, _, g, h, fun H1 xs m1 J k1 g1 wk ⟨hsz, hh⟩ => fun p hp => ?_⟩
  obtain ⟨Iv, i0, turn, fin⟩ := hh p (g1.mem.none_of hp)
  have kp : Keep H1 (upd H1 p (.lst [])) := Keep.fresh hp
  refine ⟨fun i n H' => n + i = xs.length ∧ ∃ m', Keep H1 H' ∧ MOk K H' m' ∧ Iv i m', ⟨xs.length, by omega, _, kp, g1.mem.cell (c := .lst []) hp ⟨[], upd_same, .nil⟩, i0⟩, fun i n H2 ⟨hn, m2, k2, g2, w2⟩ => ?_⟩
  by_cases hlt : i < xs.length
  · have hx : xs[i]? = some xs[i] := List.getElem?_eq_getElem hlt
    refine .inr ⟨wk.goes i H2 k2 hlt, fun H' => (n - 1) + (i + 1) = xs.length ∧ ∃ m', Keep H1 H' ∧ MOk K H' m' ∧ Iv (i + 1) m', fun H' w => ⟨n - 1, by omega, w⟩, fun x H3 hy => ?_⟩
    obtain ⟨k3, hm, r3⟩ := wk.yields i H2 x H3 xs[i] k2 hy hx
    refine ⟨xs[i], wipeD δ vs, m2, _, ⟨hm m2 g2, (g1.sl.keep (k2.trans k3)).wipe _⟩, r3, turn i xs[i] m2 hx w2, fun σ4 H4 δ4 m4 k4 g4 hw h4 => ⟨by rw [hw, wipe_wipe], ?_⟩⟩
    have kk := (k2.trans k3).trans k4
    refine ⟨δ4, m4, _, g4, h4, fun b H5 m5 k5 g5 h5 => ?_⟩
    cases b with
    | false =>
      rw [if_neg Bool.false_ne_true]
      exact ⟨by omega, m5, kk.trans k5, g5.mem, h5.2 rfl⟩
    | true =>
      rw [if_pos rfl]
      refine ⟨δ4, m5, _, g5, h5.1 rfl, fun y H6 d m6 k6 g6 r6 ⟨acc, ha, hl, h6⟩ => ?_⟩
      obtain ⟨us, hu, ru⟩ := g6.mem p _ ha
      have k7 : Keep H6 (upd H6 p (.lst (us ++ [y]))) := Keep.over hu id
      refine ⟨us, hu, by rw [← ru.length]; exact hl, by omega, _, ((kk.trans k5).trans k6).trans k7, g6.mem.put (c' := .lst (acc ++ [d])) ha ⟨_, upd_same, (ru.keep k7).app (.cons (r6.keep k7) .nil)⟩, h6⟩
  · have e : i = xs.length := by omega
    subst e
    obtain ⟨acc, ha, hk⟩ := fin m2 w2
    obtain ⟨us, hu, ru⟩ := g2 p _ ha
    refine .inl ⟨wk.stops H2 k2, hQ p us H2 (k1.trans k2) hu fun o => ?_⟩
    have k7 : Keep H2 (upd H2 p (.frz o (.lst us))) := Keep.over hu id
    exact q (.ref p) _ (.lst acc) _ ((k1.trans k2).trans k7) (g.next ((k1.trans k2).trans k7) (g2.drop ha)) (.lst (.inl ⟨o, upd_same⟩) (ru.keep k7)) hk
theorem q_lc {elt tg iter : Expr} {ifs : List Expr} {scope : Scope} {own : List (Str × Nat)} {I : TDI} {G : TDG} {tt : TDT} {te : TD} (hc : X.calm = true) (hN : X.N.Nodup) (hi : QI X tg iter I) (ok : BlkOk X.N X.env.scope scope own)
    (hg : ∀ (s : Shared) (H : Hp) (C : Addr) (cl : List (Str × Addr)) (fp : List Addr), QG (X.blk s H scope (compEnvC scope cl C X.env) fp) (own.map (·.2)) tg G)
    (ht : ∀ (s : Shared) (H : Hp) (C : Addr) (cl : List (Str × Addr)) (fp : List Addr), QTs (X.blk s H scope (compEnvC scope cl C X.env) fp) ifs tt)
    (he : ∀ (s : Shared) (H : Hp) (C : Addr) (cl : List (Str × Addr)) (fp : List Addr), QE (X.blk s H scope (compEnvC scope cl C X.env) fp) elt te)
    (hs : ∀ x, foldedSetIterable iter X.env x = pure x := by intro _; rfl) : QE X (.ListComp elt [⟨tg, iter, ifs, 0⟩] scope pos) (tLC I (own.map (·.2)) G tt te) :=
  pe_imp (pe_frz (pe_lc (g := lowG X.K (own.map (·.2)) G) (tt := lowT X.K tt) (te := low X.K te) hc hN hi ok hg ht he hs)) fun σ H Q h => by exact lc_low (Q0 := fun v H1 => ∃ p u, v = .ref p ∧ H1 p = some u ∧ Mut (some u) ∧ ∀ o, Q v (upd H1 p (.frz o u))) h fun p us H2 _ hu hk => ⟨p, .lst us, rfl, hu, trivial, hk⟩
/-- .. whose turns leave the memory as it is: f tells what a turn gives -/
theorem lc_pure {α : Type} {ys : List α} {enc : α → D} {f : α → Option D} {vs : List Nat} {G : TDG} {tt : TDT} {te : TD} {δ : Sl} {m1 : Mem} {Kd : D → Mem → Prop} (hsz : ys.length ≤ sizeLine)
    (turn : ∀ y ∈ ys, ∀ (m : Mem) (Q : Option D → Mem → Prop), SubM m1 m → Q (f y) m → G (enc y) (wipeD δ vs) m fun δ' m' => tt δ' m' fun b m2 => (b = true → te δ' m2 fun d m3 => Q (some d) m3) ∧ (b = false → Q none m2))
    (h : Kd (.lst (ys.filterMap f)) m1) : LCc vs G tt te δ Kd (ys.map enc) m1 := by
  refine ⟨by rw [List.length_map]; exact hsz, fun p hp => ⟨fun i m => m = updM m1 p (.lst ((ys.take i).filterMap f)), rfl, fun i x m hx hm => ?_, fun m hm => ?_⟩⟩
  · subst hm
    rw [List.getElem?_map] at hx
    cases e : ys[i]? with
    | none => rw [e] at hx; cases hx
    | some y =>
      rw [e] at hx
      have ex := Option.some.inj hx
      subst ex
      have hi : i < ys.length := (List.getElem?_eq_some_iff.mp e).1
      have key := turn y (List.mem_of_getElem? e) (updM m1 p (.lst ((ys.take i).filterMap f)))
        (fun o m3 => match o with
          | some d => ∃ acc, m3 p = some (.lst acc) ∧ acc.length < sizeLine ∧ updM m3 p (.lst (acc ++ [d])) = updM m1 p (.lst ((ys.take (i + 1)).filterMap f))
          | none => m3 = updM m1 p (.lst ((ys.take (i + 1)).filterMap f))) (SubM.new hp) (by
        have et : ys.take (i + 1) = ys.take i ++ [y] := by rw [List.take_add_one, e]; rfl
        cases ef : f y with
        | none =>
          show updM _ _ _ = updM _ _ _
          rw [et, List.filterMap_append]
          simp [ef]
        | some d =>
          refine ⟨_, updM_same, ?_, ?_⟩
          · have h1 := List.length_filterMap_le f (ys.take i)
            rw [List.length_take] at h1
            omega
          · rw [updM_updM, et, List.filterMap_append]
            simp [ef])
      exact key
  · rw [List.length_map, List.take_length] at hm
    subst hm
    exact ⟨_, updM_same, by rw [delM_updM hp]; exact h⟩

theorem fm_some {α β : Type} (g : α → β) (ys : List α) : ys.filterMap (fun y => some (g y)) = ys.map g := by
  rw [show (fun y => some (g y)) = some ∘ g from rfl, List.filterMap_eq_map]
theorem fm_if {α β : Type} (p : α → Bool) (g : α → β) : ∀ ys : List α, ys.filterMap (fun y => if p y = true then some (g y) else none) = (ys.filter p).map g
  | [] => rfl
  | y :: ys => by
    rw [List.filterMap_cons, List.filter_cons, fm_if p g ys]
    cases h : p y <;> simp
/-- no test, each turn gives g y -/
theorem lc_map {α : Type} {ys : List α} {enc g : α → D} {vs : List Nat} {G : TDG} {te : TD} {δ : Sl} {m1 : Mem} {Kd : D → Mem → Prop} (hsz : ys.length ≤ sizeLine)
    (turn : ∀ y ∈ ys, ∀ (m : Mem) (Q : D → Mem → Prop) (N : Mem → Prop), SubM m1 m → Q (g y) m → G (enc y) (wipeD δ vs) m fun δ' m' => tYs δ' m' fun b m2 => (b = true → te δ' m2 fun d m3 => Q d m3) ∧ (b = false → N m2))
    (h : Kd (.lst (ys.map g)) m1) : LCc vs G tYs te δ Kd (ys.map enc) m1 :=
  lc_pure (f := fun y => some (g y)) hsz (fun y hy m Q sm q => turn y hy m (fun d m3 => Q (some d) m3) (fun m2 => Q none m2) sm q) (by rw [fm_some]; exact h)
/-- one test: p y; a turn that holds gives g y -/
theorem lc_filt {α : Type} {ys : List α} {enc g : α → D} {p : α → Bool} {vs : List Nat} {G : TDG} {tt : TDT} {te : TD} {δ : Sl} {m1 : Mem} {Kd : D → Mem → Prop} (hsz : ys.length ≤ sizeLine)
    (turn : ∀ y ∈ ys, ∀ (m : Mem) (Q : D → Mem → Prop) (N : Mem → Prop), SubM m1 m → (p y = true → Q (g y) m) → (p y = false → N m) → G (enc y) (wipeD δ vs) m fun δ' m' => tt δ' m' fun b m2 => (b = true → te δ' m2 fun d m3 => Q d m3) ∧ (b = false → N m2))
    (h : Kd (.lst ((ys.filter p).map g)) m1) : LCc vs G tt te δ Kd (ys.map enc) m1 :=
  lc_pure (f := fun y => if p y = true then some (g y) else none) hsz (fun y hy m Q sm q => turn y hy m (fun d m3 => Q (some d) m3) (fun m2 => Q none m2) sm (fun h => by rw [if_pos h] at q; exact q) (fun h => by rw [if_neg (by rw [h]; exact Bool.false_ne_true)] at q; exact q)) (by rw [fm_if]; exact h)
/-! ### {k: v for target in iter if ..}, keys whole numbers -/
def DCc (vs : List Nat) (G : TDG) (tt : TDT) (tk tv : TD) (δ : Sl) (Kd : D → Mem → Prop) (xs : List D) (m1 : Mem) : Prop := xs.length ≤ sizeLine ∧ ∀ p, m1 p = none → ∃ Iv : Nat → Mem → Prop, Iv 0 (updM m1 p (.dI [])) ∧
  (∀ i x m, xs[i]? = some x → Iv i m → G x (wipeD δ vs) m fun δ' m' => tt δ' m' fun b m2 => (b = true → tk δ' m2 fun y m3 => tv δ' m3 fun d m4 => ∃ k, y = .int k ∧ ∃ acc, m4 p = some (.dI acc) ∧ acc.length < sizeLine ∧ Iv (i + 1) (updM m4 p (.dI (putI acc k d)))) ∧ (b = false → Iv (i + 1) m2)) ∧
  ∀ m, Iv xs.length m → ∃ acc, m p = some (.dI acc) ∧ Kd (.dI acc) (delM m p)
def tDC (I : TDI) (vs : List Nat) (G : TDG) (tt : TDT) (tk tv : TD) : TD := fun δ m Kd => I δ m (DCc vs G tt tk tv δ Kd)
theorem dc_low {K : PySem.W.Frag} {I : TDI} {G : TDG} {tt : TDT} {tk tv : TD} {vs : List Nat} {σ : L2.St} {H : Hp} {Q Q0 : VK} (h : low K (tDC I vs G tt tk tv) σ H Q) (hQ : ∀ p us H2, Keep H H2 → H2 p = some (.dK us) → (∀ o, Q (.ref p) (upd H2 p (.frz o (.dK us)))) → Q0 (.ref p) H2) :
    tDc (lowI K I) (lowG K vs G) (lowT K tt) (low K tk) (low K tv) vs σ H Q0 := by
  obtain ⟨δ, m, Kd, g, h, q⟩ := h
  refine ⟨δ, m, _, g, h, fun H1 xs m1 J k1 g1 wk ⟨hsz, hh⟩ => fun p hp => ?_⟩
  obtain ⟨Iv, i0, turn, fin⟩ := hh p (g1.mem.none_of hp)
  have kp : Keep H1 (upd H1 p (.dK [])) := Keep.fresh hp
  refine ⟨fun i n H' => n + i = xs.length ∧ ∃ m', Keep H1 H' ∧ MOk K H' m' ∧ Iv i m', ⟨xs.length, by omega, _, kp, g1.mem.cell (c := .dI []) hp ⟨[], upd_same, .nil⟩, i0⟩, fun i n H2 ⟨hn, m2, k2, g2, w2⟩ => ?_⟩
  by_cases hlt : i < xs.length
  · have hx : xs[i]? = some xs[i] := List.getElem?_eq_getElem hlt
    refine .inr ⟨wk.goes i H2 k2 hlt, fun H' => (n - 1) + (i + 1) = xs.length ∧ ∃ m', Keep H1 H' ∧ MOk K H' m' ∧ Iv (i + 1) m', fun H' w => ⟨n - 1, by omega, w⟩, fun x H3 hy => ?_⟩
    obtain ⟨k3, hm, r3⟩ := wk.yields i H2 x H3 xs[i] k2 hy hx
    refine ⟨xs[i], wipeD δ vs, m2, _, ⟨hm m2 g2, (g1.sl.keep (k2.trans k3)).wipe _⟩, r3, turn i xs[i] m2 hx w2, fun σ4 H4 δ4 m4 k4 g4 hw h4 => ⟨by rw [hw, wipe_wipe], ?_⟩⟩
    have kk := (k2.trans k3).trans k4
    refine ⟨δ4, m4, _, g4, h4, fun b H5 m5 k5 g5 h5 => ?_⟩
    cases b with
    | false =>
      rw [if_neg Bool.false_ne_true]
      exact ⟨by omega, m5, kk.trans k5, g5.mem, h5.2 rfl⟩
    | true =>
      rw [if_pos rfl]
      refine ⟨δ4, m5, _, g5, h5.1 rfl, fun y H6 dy m6 k6 g6 r6 h6 => ⟨δ4, m6, _, g6, h6, fun z H7 d m7 k7 g7 r7 ⟨k, ek, acc, ha, hl, h7⟩ => ?_⟩⟩
      subst ek
      cases r6
      obtain ⟨us, hu, ru⟩ := g7.mem p _ ha
      have k8 : Keep H7 (upd H7 p (.dK (putK us (Sum.inl k) z))) := Keep.over hu id
      refine ⟨us, Sum.inl k, rfl, hu, by rw [← ru.length]; exact hl, by omega, _, (((kk.trans k5).trans k6).trans k7).trans k8, g7.mem.put (c' := .dI (putI acc k d)) ha ⟨_, upd_same, repI_put (r7.keep k8) (ru.keep k8)⟩, h7⟩
  · have e : i = xs.length := by omega
    subst e
    obtain ⟨acc, ha, hk⟩ := fin m2 w2
    obtain ⟨us, hu, ru⟩ := g2 p _ ha
    refine .inl ⟨wk.stops H2 k2, hQ p us H2 (k1.trans k2) hu fun o => ?_⟩
    have k7 : Keep H2 (upd H2 p (.frz o (.dK us))) := Keep.over hu id
    exact q (.ref p) _ (.dI acc) _ ((k1.trans k2).trans k7) (g.next ((k1.trans k2).trans k7) (g2.drop ha)) (.dI upd_same (ru.keep k7)) hk
theorem q_dc {kx vx tg iter : Expr} {ifs : List Expr} {scope : Scope} {own : List (Str × Nat)} {I : TDI} {G : TDG} {tt : TDT} {tk tv : TD} (hc : X.calm = true) (hN : X.N.Nodup) (hi : QI X tg iter I) (ok : BlkOk X.N X.env.scope scope own)
    (hg : ∀ (s : Shared) (H : Hp) (C : Addr) (cl : List (Str × Addr)) (fp : List Addr), QG (X.blk s H scope (compEnvC scope cl C X.env) fp) (own.map (·.2)) tg G)
    (ht : ∀ (s : Shared) (H : Hp) (C : Addr) (cl : List (Str × Addr)) (fp : List Addr), QTs (X.blk s H scope (compEnvC scope cl C X.env) fp) ifs tt)
    (hk : ∀ (s : Shared) (H : Hp) (C : Addr) (cl : List (Str × Addr)) (fp : List Addr), QE (X.blk s H scope (compEnvC scope cl C X.env) fp) kx tk)
    (he : ∀ (s : Shared) (H : Hp) (C : Addr) (cl : List (Str × Addr)) (fp : List Addr), QE (X.blk s H scope (compEnvC scope cl C X.env) fp) vx tv)
    (hs : ∀ x, foldedSetIterable iter X.env x = pure x := by intro _; rfl) : QE X (.DictComp kx vx [⟨tg, iter, ifs, 0⟩] scope pos) (tDC I (own.map (·.2)) G tt tk tv) :=
  pe_imp (pe_frz (pe_dc (g := lowG X.K (own.map (·.2)) G) (tt := lowT X.K tt) (tk := low X.K tk) (tv := low X.K tv) hc hN hi ok hg ht hk he hs)) fun σ H Q h => by exact dc_low (Q0 := fun v H1 => ∃ p u, v = .ref p ∧ H1 p = some u ∧ Mut (some u) ∧ ∀ o, Q v (upd H1 p (.frz o u))) h fun p us H2 _ hu hk => ⟨p, .dK us, rfl, hu, trivial, hk⟩
theorem putI_new {kvs : List (Int × D)} {k : Int} {d : D} (h : k ∉ kvs.map (·.1)) : putI kvs k d = kvs ++ [(k, d)] := by
  unfold putI
  rw [if_neg]
  intro z
  rw [List.any_eq_true] at z
  obtain ⟨p, hp, e⟩ := z
  exact h (List.mem_map.mpr ⟨p, hp, of_decide_eq_true e⟩)
theorem putP_new {kvs : List ((Int × Int) × D)} {k : Int × Int} {d : D} (h : k ∉ kvs.map (·.1)) : putP kvs k d = kvs ++ [(k, d)] := by
  unfold putP
  rw [if_neg]
  intro z
  rw [List.any_eq_true] at z
  obtain ⟨p, hp, e⟩ := z
  exact h (List.mem_map.mpr ⟨p, hp, of_decide_eq_true e⟩)
/-- .. whose turns leave the memory as it is, the keys unlike -/
theorem dc_pure {α : Type} {ys : List α} {enc : α → D} {f : α → Option (Int × D)} {vs : List Nat} {G : TDG} {tt : TDT} {tk tv : TD} {δ : Sl} {m1 : Mem} {Kd : D → Mem → Prop} (hsz : ys.length ≤ sizeLine) (hnd : ((ys.filterMap f).map (·.1)).Nodup)
    (turn : ∀ y ∈ ys, ∀ (m : Mem) (Q : Option (Int × D) → Mem → Prop), SubM m1 m → Q (f y) m → G (enc y) (wipeD δ vs) m fun δ' m' => tt δ' m' fun b m2 => (b = true → tk δ' m2 fun u m3 => tv δ' m3 fun d m4 => ∃ k, u = .int k ∧ Q (some (k, d)) m4) ∧ (b = false → Q none m2))
    (h : Kd (.dI (ys.filterMap f)) m1) : DCc vs G tt tk tv δ Kd (ys.map enc) m1 := by
  refine ⟨by rw [List.length_map]; exact hsz, fun p hp => ⟨fun i m => m = updM m1 p (.dI ((ys.take i).filterMap f)), rfl, fun i x m hx hm => ?_, fun m hm => ?_⟩⟩
  · subst hm
    rw [List.getElem?_map] at hx
    cases e : ys[i]? with
    | none => rw [e] at hx; cases hx
    | some y =>
      rw [e] at hx
      have ex := Option.some.inj hx
      subst ex
      have hi : i < ys.length := (List.getElem?_eq_some_iff.mp e).1
      have key := turn y (List.mem_of_getElem? e) (updM m1 p (.dI ((ys.take i).filterMap f)))
        (fun o m3 => match o with
          | some (k, d) => ∃ acc, m3 p = some (.dI acc) ∧ acc.length < sizeLine ∧ updM m3 p (.dI (putI acc k d)) = updM m1 p (.dI ((ys.take (i + 1)).filterMap f))
          | none => m3 = updM m1 p (.dI ((ys.take (i + 1)).filterMap f))) (SubM.new hp) (by
        have et : ys.take (i + 1) = ys.take i ++ [y] := by rw [List.take_add_one, e]; rfl
        cases ef : f y with
        | none =>
          show updM _ _ _ = updM _ _ _
          rw [et, List.filterMap_append]
          simp [ef]
        | some kd =>
          obtain ⟨k, d⟩ := kd
          refine ⟨_, updM_same, ?_, ?_⟩
          · have h1 := List.length_filterMap_le f (ys.take i)
            rw [List.length_take] at h1
            omega
          · rw [updM_updM, et, List.filterMap_append]
            have hk : k ∉ ((ys.take i).filterMap f).map (·.1) := by
              have ed : ys = ys.take i ++ (y :: ys.drop (i + 1)) := by
                have e3 := List.drop_eq_getElem_cons hi
                rw [(List.getElem?_eq_some_iff.mp e).2] at e3
                rw [← e3, List.take_append_drop]
              rw [ed, List.filterMap_append, List.map_append, List.filterMap_cons_some ef, List.map_cons] at hnd
              intro z
              have := (List.nodup_append.mp hnd).2.2 k z k (List.mem_cons_self ..)
              exact this rfl
            rw [putI_new hk]
            simp [ef])
      exact key
  · rw [List.length_map, List.take_length] at hm
    subst hm
    exact ⟨_, updM_same, by rw [delM_updM hp]; exact h⟩

theorem dc_map {α : Type} {ys : List α} {enc g : α → D} {k : α → Int} {vs : List Nat} {G : TDG} {tk tv : TD} {δ : Sl} {m1 : Mem} {Kd : D → Mem → Prop} (hsz : ys.length ≤ sizeLine) (hnd : (ys.map k).Nodup)
    (turn : ∀ y ∈ ys, ∀ (m : Mem) (Q : Int → D → Mem → Prop) (N : Mem → Prop), SubM m1 m → Q (k y) (g y) m → G (enc y) (wipeD δ vs) m fun δ' m' => tYs δ' m' fun b m2 => (b = true → tk δ' m2 fun u m3 => tv δ' m3 fun d m4 => ∃ k, u = .int k ∧ Q k d m4) ∧ (b = false → N m2))
    (h : Kd (.dI (ys.map fun y => (k y, g y))) m1) : DCc vs G tYs tk tv δ Kd (ys.map enc) m1 :=
  dc_pure (f := fun y => some (k y, g y)) hsz (by rw [fm_some, List.map_map]; exact hnd) (fun y hy m Q sm q => turn y hy m (fun k d m3 => Q (some (k, d)) m3) (fun m2 => Q none m2) sm q) (by rw [fm_some]; exact h)
theorem dc_filt {α : Type} {ys : List α} {enc g : α → D} {k : α → Int} {p : α → Bool} {vs : List Nat} {G : TDG} {tt : TDT} {tk tv : TD} {δ : Sl} {m1 : Mem} {Kd : D → Mem → Prop} (hsz : ys.length ≤ sizeLine) (hnd : (ys.map k).Nodup)
    (turn : ∀ y ∈ ys, ∀ (m : Mem) (Q : Int → D → Mem → Prop) (N : Mem → Prop), SubM m1 m → (p y = true → Q (k y) (g y) m) → (p y = false → N m) → G (enc y) (wipeD δ vs) m fun δ' m' => tt δ' m' fun b m2 => (b = true → tk δ' m2 fun u m3 => tv δ' m3 fun d m4 => ∃ k, u = .int k ∧ Q k d m4) ∧ (b = false → N m2))
    (h : Kd (.dI ((ys.filter p).map fun y => (k y, g y))) m1) : DCc vs G tt tk tv δ Kd (ys.map enc) m1 :=
  dc_pure (f := fun y => if p y = true then some (k y, g y) else none) hsz (by rw [fm_if, List.map_map]; exact hnd.sublist (List.Sublist.map k List.filter_sublist)) (fun y hy m Q sm q => turn y hy m (fun k d m3 => Q (some (k, d)) m3) (fun m2 => Q none m2) sm (fun h => by rw [if_pos h] at q; exact q) (fun h => by rw [if_neg (by rw [h]; exact Bool.false_ne_true)] at q; exact q)) (by rw [fm_if]; exact h)

/-! ### name = [..], name = {..} on one line, the name a local: stored within -/
theorem SOk.length {K : PySem.W.Frag} {H : Hp} : ∀ {σ : L2.St} {δ : Sl}, SOk K H σ δ → σ.length = δ.length
  | _, _, .nil => rfl
  | _, _, .no t => by rw [List.length_cons, List.length_cons, SOk.length t]
  | _, _, .is _ t => by rw [List.length_cons, List.length_cons, SOk.length t]
/-- behind the statement what stands in slot i is frozen -/
def tFrzS (i : Nat) (t : TS) : TS := fun D σ H => t { D with nx := fun σ' H' => ∃ p u, σ'[i]? = some (some (.ref p)) ∧ H' p = some u ∧ Mut (some u) ∧ ∀ o, D.nx σ' (upd H' p (.frz o u)) } σ H
theorem ps_frzS {st : Stmt} {i : Nat} {t : TS} (h : PS X st t) : PS X st (tFrzS i t) := ⟨fun pins s σ H D I hq => thn (h.run pins s σ H _ I hq) fun f s1 q => by
  cases f with
  | next =>
    obtain ⟨σ', H', I', p, u, _, hp, mu, hk⟩ := q
    obtain ⟨od, I2⟩ := I'.lock hp mu
    exact ⟨σ', _, I2, hk od⟩
  | ret v => exact q
  | brk => exact q
  | cont => exact q⟩
def tAsL (i : Nat) (t : TD) : TDS := fun DD δ m => i < δ.length ∧ t δ m fun d m1 => DD.nx (δ.set i (some d)) m1
theorem qs_setLc {i : Nat} {y : Str} {py : Pos} {elt tg iter : Expr} {ifs : List Expr} {scope : Scope} {own : List (Str × Nat)} {spos : Pos} {I : TDI} {G : TDG} {tt : TDT} {te : TD} (hc : X.calm = true) (hN : X.N.Nodup) (hy : X.N[i]? = some y) (hyl : X.env.scope.names.lookup y = some .local)
    (hsw : swapsWith (.ListComp elt [⟨tg, iter, ifs, 0⟩] scope pos) (some (.Name y py)) spos.line X.env = pure true) (hi : QI X tg iter I) (ok : BlkOk X.N X.env.scope scope own)
    (hg : ∀ (s : Shared) (H : Hp) (C : Addr) (cl : List (Str × Addr)) (fp : List Addr), QG (X.blk s H scope (compEnvC scope cl C X.env) fp) (own.map (·.2)) tg G)
    (ht : ∀ (s : Shared) (H : Hp) (C : Addr) (cl : List (Str × Addr)) (fp : List Addr), QTs (X.blk s H scope (compEnvC scope cl C X.env) fp) ifs tt)
    (he : ∀ (s : Shared) (H : Hp) (C : Addr) (cl : List (Str × Addr)) (fp : List Addr), QE (X.blk s H scope (compEnvC scope cl C X.env) fp) elt te)
    (hs : ∀ x, foldedSetIterable iter X.env x = pure x := by intro _; rfl) : QS X (.Assign [.Name y py] (.ListComp elt [⟨tg, iter, ifs, 0⟩] scope pos) spos) (tAsL i (tLC I (own.map (·.2)) G tt te)) :=
  ps_imp (ps_frzS (i := i) (ps_setLc (g := lowG X.K (own.map (·.2)) G) (tt := lowT X.K tt) (te := low X.K te) hc hN hy hyl hsw hi ok hg ht he hs)) fun D σ H ⟨δ, m, DD, g, ⟨hlt, h⟩, E⟩ => by
    have hl : low X.K (tLC I (own.map (·.2)) G tt te) σ H (fun v H1 => D.nx (σ.set i (some v)) H1) := ⟨δ, m, _, g, h, fun v H1 d m1 k g1 r h1 => E.nx _ H1 _ m1 k ⟨g1.mem, g1.sl.set r i⟩ h1⟩
    refine lc_low (Q0 := fun x H1 => ∃ p u, (σ.set i (some x))[i]? = some (some (.ref p)) ∧ H1 p = some u ∧ Mut (some u) ∧ ∀ o, D.nx (σ.set i (some x)) (upd H1 p (.frz o u))) hl fun p us H2 _ hu hk => ⟨p, .lst us, ?_, hu, trivial, hk⟩
    rw [List.getElem?_set_self (by rw [g.sl.length]; exact hlt)]
theorem ps_setDc {i : Nat} {y : Str} {py : Pos} {kx vx tg iter : Expr} {ifs : List Expr} {scope : Scope} {own : List (Str × Nat)} {spos : Pos} {wi : TI} {g : TG} {tt : TT} {tk tv : TE} (hc : X.calm = true) (hN : X.N.Nodup) (hy : X.N[i]? = some y) (hyl : X.env.scope.names.lookup y = some .local)
    (hsw : swapsWith (.DictComp kx vx [⟨tg, iter, ifs, 0⟩] scope pos) (some (.Name y py)) spos.line X.env = pure true) (hi : PI X tg iter wi) (ok : BlkOk X.N X.env.scope scope own)
    (hg : ∀ (s : Shared) (H : Hp) (C : Addr) (cl : List (Str × Addr)) (fp : List Addr), PG (X.blk s H scope (compEnvC scope cl C X.env) fp) tg g) (ht : ∀ (s : Shared) (H : Hp) (C : Addr) (cl : List (Str × Addr)) (fp : List Addr), PTs (X.blk s H scope (compEnvC scope cl C X.env) fp) ifs tt)
    (hk : ∀ (s : Shared) (H : Hp) (C : Addr) (cl : List (Str × Addr)) (fp : List Addr), PE (X.blk s H scope (compEnvC scope cl C X.env) fp) kx tk)
    (he : ∀ (s : Shared) (H : Hp) (C : Addr) (cl : List (Str × Addr)) (fp : List Addr), PE (X.blk s H scope (compEnvC scope cl C X.env) fp) vx tv) (hs : ∀ x, foldedSetIterable iter X.env x = pure x := by intro _; rfl) :
    PS X (.Assign [.Name y py] (.DictComp kx vx [⟨tg, iter, ifs, 0⟩] scope pos) spos) (tAsg (tDc wi g tt tk tv (own.map (·.2))) (gName i)) := by
  refine ⟨fun pins s σ H D I h => ?_⟩
  rw [exec_Assign_Name_used _ _ _ _ hsw]
  refine wpAny_bind (wpAny_standAt (wpAny_bind ?_))
  show wpAny _ X.A (do let _ ← comprehension (.DictComp kx vx [⟨tg, iter, ifs, 0⟩] scope pos) scope X.env (firstIterPos [⟨tg, iter, ifs, 0⟩] pos) newDict false (eval iter X.env) (some (assign (.Name y py) X.env))) _ _ s
  have h : tDc wi g tt tk tv (own.map (·.2)) σ H (fun x H1 => gName i x σ H1 D.nx) := h
  refine wpAny_bind (thn (dc_core (Qf := fun _ s' => SP X pins D .next s') hc hN I hi ok hg ht hk he hs h fun L C s' m H' I' q hn f => ?_) fun _ s' hq => wpAny_pure (wpAny_pure hq))
  show wpAny _ _ (assign (.Name y py) X.env (.ref L)) _ _ _
  refine wpAny_assign_Name (store_ok2 (v := V.ref L) I' hN hy (.inl hyl) rfl (fun s2 I2 ⟨a, sb, ha⟩ => ?_) (.inr hyl))
  obtain ⟨f0, f1, f2, f3, f4, f5⟩ := f
  have haC : C ≠ a := by
    rcases ha with z | z
    · rw [z]; exact f1
    · exact fun e => f4 y a z e.symm
  refine ⟨m, hn.sameBut sb haC, fun h3 sb3 => ?_⟩
  exact ⟨_, H', I2.turned (t' := s2.toks) (fun b o hb e => (sb3.2 b hb).trans e) f0 f1 f3 f4 f5, q⟩
theorem sw_trueD {kx vx : Expr} {gs : List Comprehension} {scope : Scope} {py : Pos} {y : Str} {l : Nat} {env : Env} (hk : env.scope.kind = .function) (hy : env.scope.names.lookup y = some .local) (hl : (py.line == pos.line) = true)
    (ha : (scope.names.any fun (n, k) => n == y && (k == .local || k == .cell)) = false) : swapsWith (.DictComp kx vx gs scope pos) (some (.Name y py)) l env = pure true := by
  have ky : env.kindOf y = some .local := hy
  have hb : env.blockKind = .function := by unfold Env.blockKind; rw [hk]; rfl
  unfold swapsWith
  simp only [hb, ky, ha, Expr.pos, hl]
  rfl
theorem qs_setDc {i : Nat} {y : Str} {py : Pos} {kx vx tg iter : Expr} {ifs : List Expr} {scope : Scope} {own : List (Str × Nat)} {spos : Pos} {I : TDI} {G : TDG} {tt : TDT} {tk tv : TD} (hc : X.calm = true) (hN : X.N.Nodup) (hy : X.N[i]? = some y) (hyl : X.env.scope.names.lookup y = some .local)
    (hsw : swapsWith (.DictComp kx vx [⟨tg, iter, ifs, 0⟩] scope pos) (some (.Name y py)) spos.line X.env = pure true) (hi : QI X tg iter I) (ok : BlkOk X.N X.env.scope scope own)
    (hg : ∀ (s : Shared) (H : Hp) (C : Addr) (cl : List (Str × Addr)) (fp : List Addr), QG (X.blk s H scope (compEnvC scope cl C X.env) fp) (own.map (·.2)) tg G)
    (ht : ∀ (s : Shared) (H : Hp) (C : Addr) (cl : List (Str × Addr)) (fp : List Addr), QTs (X.blk s H scope (compEnvC scope cl C X.env) fp) ifs tt)
    (hk : ∀ (s : Shared) (H : Hp) (C : Addr) (cl : List (Str × Addr)) (fp : List Addr), QE (X.blk s H scope (compEnvC scope cl C X.env) fp) kx tk)
    (he : ∀ (s : Shared) (H : Hp) (C : Addr) (cl : List (Str × Addr)) (fp : List Addr), QE (X.blk s H scope (compEnvC scope cl C X.env) fp) vx tv)
    (hs : ∀ x, foldedSetIterable iter X.env x = pure x := by intro _; rfl) : QS X (.Assign [.Name y py] (.DictComp kx vx [⟨tg, iter, ifs, 0⟩] scope pos) spos) (tAsL i (tDC I (own.map (·.2)) G tt tk tv)) :=
  ps_imp (ps_frzS (i := i) (ps_setDc (g := lowG X.K (own.map (·.2)) G) (tt := lowT X.K tt) (tk := low X.K tk) (tv := low X.K tv) hc hN hy hyl hsw hi ok hg ht hk he hs)) fun D σ H ⟨δ, m, DD, g, ⟨hlt, h⟩, E⟩ => by
    have hl : low X.K (tDC I (own.map (·.2)) G tt tk tv) σ H (fun v H1 => D.nx (σ.set i (some v)) H1) := ⟨δ, m, _, g, h, fun v H1 d m1 k g1 r h1 => E.nx _ H1 _ m1 k ⟨g1.mem, g1.sl.set r i⟩ h1⟩
    refine dc_low (Q0 := fun x H1 => ∃ p u, (σ.set i (some x))[i]? = some (some (.ref p)) ∧ H1 p = some u ∧ Mut (some u) ∧ ∀ o, D.nx (σ.set i (some x)) (upd H1 p (.frz o u))) hl fun p us H2 _ hu hk => ⟨p, .dK us, ?_, hu, trivial, hk⟩
    rw [List.getElem?_set_self (by rw [g.sl.length]; exact hlt)]
end
end MW

end
section
set_option Elab.async false
set_option linter.all false
set_option maxRecDepth 100000
/-! MwDict: a display of one pair with a tuple as its key, dict(pairs) with tuples as keys. -/
namespace MW
open PySem PySem.Spec PyProof.Rows L2
section
variable {X : Cx} {pos : Pos} {k v : Expr}
def tDispT (tk tv : TE) : TE := fun σ H Q => ∀ p, H p = none → tk σ (upd H p (.dT [])) fun x H1 => tv σ H1 fun y H2 => H2 p = some (.dT []) ∧ ∃ b key, x = .ref b ∧ H2 b = some (.tup (key.map kV)) ∧ Q (.ref p) (upd H2 p (.dT [(key, y)]))
theorem pe_dispT {tk tv : TE} (hu : X.A.units + 1 < cLine) (hk : PE X k tk) (hv : PE X v tv) : PE X (.Dict [some k] [v] pos) (tDispT tk tv) := by
  refine ⟨fun pins s σ H Q I h => ?_⟩
  have hn := I.hok.fresh (Nat.le_refl s.heap.objs.size)
  have I1 := I.laid (a := s.heap.objs.size) (o := .dT []) (h' := s.heap.push { cls := .type "dict", data := .dict #[] }) (t' := s.toks) (fun _ _ q => Heap.get?_push_of_some _ q) (Nat.le_refl _) (dt_empty s.heap I.big)
  have hq := h _ hn
  have hroom : (tupleKind (mixKind X.prog X.w)).room X.A := by show X.A.units < cLine; omega
  rw [arm_eval_Dict, zip_pairTrees [some k] [v] X.env pos rfl rfl, dictDisplay_pairs _ (by simp [pairTrees]) (by simp [pairTrees])]
  refine wpAny_bind (wpAny_standAt (wpAny_bind (wpAny_subDictH (knd := tupleKind (mixKind X.prog X.w)) (Q := fun d s' => wpAny (model X.prog X.w) X.A (pure (Value.ref d)) (EP X pins σ Q) X.xe s') hroom (by simp [pairTrees]) ?_)))
  refine pairTrees_cons_walk (thn (hk.run pins _ σ _ _ I1 hq) fun kv s1 ⟨x, H1, I2, rx, q1⟩ => thn (hv.run pins s1 σ H1 _ I2 q1) fun vv s2 ⟨y, H2, I3, ry, hp, b, key, ex, hb, q2⟩ => pairTrees_nil_walk ?_)
  subst ex
  obtain rfl : kv = Value.ref b := rx
  obtain ⟨z, hd, xs0, r0, dd⟩ := dt_of I3.hok hp
  cases r0
  refine ⟨[(key, b, vv)], ⟨rfl, rfl, key_of I3.hok hb, trivial⟩, dd, fun h' tk dd' hs => wpAny_pure ⟨.ref s.heap.objs.size, _, ?_, rfl, q2⟩⟩
  obtain ⟨q, es, ep, hq2, h2, h3, h4, _, h5⟩ := id dd'
  refine d_write I3 (by rw [hp]; exact True.intro) hs ⟨q, hq2⟩ ⟨by show 1 ≤ sizeLine; decide, hd, [(key, b, vv)], .cons ⟨rfl, ?_, ry⟩ .nil, q, es, ep, hq2, h2, h3, h4, h5⟩
  rw [upd_ne (ne_of hb hp (fun z => nomatch z))]
  exact hb

/-! ### dict(pairs), the keys tuples, none twice -/
theorem storedH_of_new {κ : Type} [DecidableEq κ] {xs : List (κ × Addr × Value)} {k : κ} {a : Addr} {v : Value} (h : k ∉ xs.map (·.1)) : storedH xs k a v = xs ++ [(k, a, v)] := by
  refine storedH_new ?_ a v
  unfold atKey
  rw [Option.map_eq_none_iff, List.find?_eq_none]
  intro x hx z
  exact h (List.mem_map.mpr ⟨x, hx, of_decide_eq_true z⟩)
theorem storedAllH_nodup {κ : Type} [DecidableEq κ] : ∀ (ps xs : List (κ × Addr × Value)), ((xs ++ ps).map (·.1)).Nodup → storedAllH xs ps = xs ++ ps
  | [], xs, _ => by simp [storedAllH]
  | (k, a, v) :: ps, xs, h => by
    show storedAllH (storedH xs k a v) ps = _
    have hk : k ∉ xs.map (·.1) := by
      intro z
      rw [List.map_append, List.map_cons] at h
      exact (List.nodup_append.mp h).2.2 k z k (List.mem_cons_self ..) rfl
    rw [storedH_of_new hk, storedAllH_nodup ps (xs ++ [(k, a, v)]) (by rw [List.append_assoc]; exact h), List.append_assoc]
    rfl
def rDictT (K : PySem.W.Frag) : List V → Hp → VK → Prop := fun xs H Q => ∃ (a : Addr) (ps : List Addr) (kvs : List (List Key × V)), xs = [.ref a] ∧ SqL K H a (ps.map V.ref) ∧ Paired (fun p kv => ∃ b, H p = some (.tup [.ref b, kv.2]) ∧ H b = some (.tup (kv.1.map kV))) ps kvs ∧ (kvs.map (·.1)).Nodup ∧ ∀ p, H p = none → Q (.ref p) (upd H p (.dT kvs))
theorem pairsT_of {pins : List (Addr × Obj)} {σ : L2.St} {H : Hp} {s : Shared} (I : Inv X pins σ H s) : ∀ {ps : List Addr} {kvs : List (List Key × V)}, Paired (fun p kv => ∃ b, H p = some (.tup [.ref b, kv.2]) ∧ H b = some (.tup (kv.1.map kV))) ps kvs →
    ∃ ts : List (List Key × Addr × Value), KT H kvs ts ∧ ts.length = ps.length ∧ ∀ (j : Nat) (k : List Key) (b : Addr) (y : Value), ts[j]? = some (k, b, y) → ∃ T, ps[j]? = some T ∧ IsTup s.heap T #[.ref b, y] ∧ H b = some (.tup (k.map kV))
  | _, _, .nil => ⟨[], .nil, rfl, fun j k b y e => by simp at e⟩
  | _, _, .cons (a := p) (b := kv) ⟨b, h1, h2⟩ t => by
    obtain ⟨ts, r, hl, hp⟩ := pairsT_of I t
    obtain ⟨its, rv, ht, _⟩ := I.tuple (SqT.of h1)
    obtain ⟨u, y, ei, ru, ry⟩ := vals2 rv
    subst ei
    obtain rfl : u = Value.ref b := ru
    refine ⟨(kv.1, b, y) :: ts, .cons ⟨rfl, h2, ry⟩ r, by rw [List.length_cons, List.length_cons, hl], fun j k' b' y' e => ?_⟩
    cases j with
    | zero =>
      have e' := Option.some.inj e
      cases e'
      exact ⟨p, rfl, ht, h2⟩
    | succ j => exact hp j k' b' y' (by simpa using e)
theorem call_dictPT (hcalm : X.calm = true) (hu : X.A.units + 65 < cLine) : CallR X (.type "dict") (rDictT X.K) := by
  intro pins s σ H xs us Q I r ⟨a, ps, kvs, e, hS, hp, hnd, q⟩
  subst e
  obtain ⟨u, rfl, ru⟩ := vals1 r
  obtain rfl : u = Value.ref a := ru
  obtain ⟨its, rv, pl, hz⟩ := I.list hS
  have ei := refs_at rv
  subst ei
  obtain ⟨ts, rT, hl, hT⟩ := pairsT_of I hp
  have hlen : kvs.length = ts.length := Paired.length rT
  obtain ⟨o, n, ho, hc, hd, hdat⟩ := pl
  have hkeys : ts.map (·.1) = kvs.map (·.1) := by
    have : ∀ {kvs : List (List Key × V)} {ts : List (List Key × Addr × Value)}, KT H kvs ts → ts.map (·.1) = kvs.map (·.1) := by
      intro kvs ts r
      induction r with
      | nil => rfl
      | cons h t ih => rw [List.map_cons, List.map_cons, ih, h.1]
    exact this rT
  have P := PairArg.list (prog := X.prog) (w := X.w) a (ps.map Value.ref).toArray (fun j => ps.getD j 0) (ts.map fun t => (Value.ref t.2.1, t.2.2))
  have hzT : ts.length ≤ sizeLine := by rw [hl]; rw [List.length_map] at hz; exact hz
  refine call_dict_pairsH (knd := tupleKind (mixKind X.prog X.w)) (ps := ts) P (I.ok.hd hcalm) (by show X.A.units + 1 + 1 < cLine; omega) ⟨⟨o, n, ho, hc, hd, hdat⟩, by rw [List.size_toArray, List.length_map, List.length_map, hl], fun j k y hj => ?_⟩ ⟨by rw [List.length_map], fun i key y hi => ?_⟩ (fun h' hk x hx => ?_) (by rw [List.length_map]; exact hzT) fun h' tk hd' hk => ?_
  · rw [List.getElem?_map] at hj
    cases e : ts[j]? with
    | none => rw [e] at hj; cases hj
    | some t =>
      rw [e] at hj
      obtain ⟨k0, b, y0⟩ := t
      obtain ⟨T, h1, h2, _⟩ := hT j k0 b y0 e
      have hj' := Option.some.inj hj
      cases hj'
      have eT : ps.getD j 0 = T := by rw [List.getD_eq_getElem?_getD, h1]; rfl
      refine ⟨by simp [h1, eT], .inl ?_⟩
      show s.heap.IsTuple (ps.getD j 0) #[Value.ref b, y0]
      rw [eT]
      exact h2
  · have hi : (ts.map fun t => (Value.ref t.2.1, t.2.2))[i]? = some (key, y) := hi
    rw [List.getElem?_map] at hi
    cases e : ts[i]? with
    | none => rw [e] at hi; cases hi
    | some t =>
      rw [e] at hi
      obtain ⟨k0, b, y0⟩ := t
      have hj' := Option.some.inj hi
      cases hj'
      exact ⟨k0, b, rfl, rfl⟩
  · obtain ⟨j, hj⟩ := List.mem_iff_getElem?.mp hx
    obtain ⟨k0, b, y0⟩ := x
    obtain ⟨T, h1, h2, h3⟩ := hT j k0 b y0 hj
    have hk' : ∀ b o, s.heap.get? b = some o → h'.get? b = some o := fun b o e => hk b o (Nat.ne_of_lt (Heap.lt_size e)) (by simp) e
    exact key_of (I.hok.kept hk') h3
  · rw [storedAllH_nodup ts [] (by rw [List.nil_append, hkeys]; exact hnd), List.nil_append] at hd'
    have hk' : ∀ b o, s.heap.get? b = some o → h'.get? b = some o := fun b o e => hk b o (by simp) e
    have hn := I.hok.fresh (Nat.le_refl s.heap.objs.size)
    refine ⟨.ref s.heap.objs.size, _, I.laid (o := .dT kvs) hk' (Nat.le_refl _) ?_, rfl, q _ hn⟩
    obtain ⟨q2, es, ep, hq2, h2, h3, h4, _, h5⟩ := id hd'
    refine ⟨by rw [hlen]; exact hzT, beq_eq_false_iff_ne.mpr (Ne.symm (Nat.ne_of_lt I.big)), ts, rT.keeps fun b ys e => ?_, q2, es, ep, hq2, h2, h3, h4, h5⟩
    rw [upd_ne (ne_of_none e hn)]
    exact e
end
end MW

end
section
set_option Elab.async false
set_option linter.all false
set_option maxRecDepth 100000
/-! MwMore: dicts made and walked, conversions, tuples joined, cut and repeated, over data. -/
namespace MW
open PySem PySem.Spec PyProof.Rows L2

section
variable {K : PySem.W.Frag} {H : Hp}
theorem RepI.get : ∀ {kvs : List (Int × D)} {ws : List (Key × V)} {i : Nat} {p : Int × D}, RepI K H kvs ws → kvs[i]? = some p → ∃ v, ws[i]? = some (Sum.inl p.1, v) ∧ Rep K H p.2 v
  | _, _, _, _, .nil, e => by simp at e
  | _, _, 0, _, .cons r _, e => by simp at e; subst e; exact ⟨_, rfl, r⟩
  | _, _, i + 1, p, .cons _ t, e => by
    obtain ⟨u, h1, h2⟩ := RepI.get (i := i) (p := p) t (by simpa using e)
    exact ⟨u, by simpa using h1, h2⟩
theorem RepP.get : ∀ {kvs : List ((Int × Int) × D)} {ws : List (List Key × V)} {i : Nat} {p : (Int × Int) × D}, RepP K H kvs ws → kvs[i]? = some p → ∃ v, ws[i]? = some (pk p.1, v) ∧ Rep K H p.2 v
  | _, _, _, _, .nil, e => by simp at e
  | _, _, 0, _, .cons r _, e => by simp at e; subst e; exact ⟨_, rfl, r⟩
  | _, _, i + 1, p, .cons _ t, e => by
    obtain ⟨u, h1, h2⟩ := RepP.get (i := i) (p := p) t (by simpa using e)
    exact ⟨u, by simpa using h1, h2⟩
abbrev prD (k : Int × Int) : D := .tup [.int k.1, .int k.2]
theorem rep_prD {k : Int × Int} {b : Addr} (h : H b = some (.tup ((pk k).map kV))) : Rep K H (prD k) (.ref b) := .tup h (.cons (.int _) (.cons (.int _) .nil))
end

section
variable {X : Cx} {pos : Pos} {e o : Expr} {es : List Expr}
/-! ### a dict's keys, its items -/
def iKI (t : TD) : TDI := fun δ m Rd => t δ m fun d m1 => ∃ kvs, d = .dI kvs ∧ Rd (kvs.map fun p => .int p.1) m1
def iKP (t : TD) : TDI := fun δ m Rd => t δ m fun d m1 => ∃ kvs, d = .dP kvs ∧ Rd (kvs.map fun p => prD p.1) m1
theorem walk_kI {K : PySem.W.Frag} {H : Hp} {a : Addr} {ob : Obj} {ws : List (Key × V)} {kvs : List (Int × D)} (h : H a = some (.frz ob (.dK ws))) (r : RepI K H kvs ws) : WalkD K (Itk a ob ws) (kvs.map fun p => .int p.1) H where
  goes := fun i H' k hi => ⟨k _ _ h trivial, by rw [List.length_map, r.length] at hi; exact hi⟩
  stops := fun H' k => ⟨k _ _ h trivial, by rw [List.length_map, r.length]; exact Nat.le_refl _⟩
  yields := fun i H' x H2 d k y hx => by
    obtain ⟨e, kk, v, h1, h2⟩ := y
    subst e h2
    rw [List.getElem?_map] at hx
    cases ep : kvs[i]? with
    | none => rw [ep] at hx; cases hx
    | some p =>
      rw [ep] at hx
      have ed := Option.some.inj hx
      subst ed
      obtain ⟨u, hu, _⟩ := r.get ep
      rw [hu] at h1
      have e1 := Option.some.inj h1
      cases e1
      exact ⟨Keep.refl _, fun _ q => q, .int _⟩
theorem walk_kP {K : PySem.W.Frag} {H : Hp} {a : Addr} {ob : Obj} {ws : List (List Key × V)} {kvs : List ((Int × Int) × D)} (h : H a = some (.frz ob (.dT ws))) (r : RepP K H kvs ws) : WalkD K (Itkt a ob ws) (kvs.map fun p => prD p.1) H where
  goes := fun i H' k hi => ⟨k _ _ h trivial, by rw [List.length_map, r.length] at hi; exact hi⟩
  stops := fun H' k => ⟨k _ _ h trivial, by rw [List.length_map, r.length]; exact Nat.le_refl _⟩
  yields := fun i H' x H2 d k y hx => by
    obtain ⟨e, kk, v, q, h1, h2, h3⟩ := y
    subst e h2
    rw [List.getElem?_map] at hx
    cases ep : kvs[i]? with
    | none => rw [ep] at hx; cases hx
    | some p =>
      rw [ep] at hx
      have ed := Option.some.inj hx
      subst ed
      obtain ⟨u, hu, _⟩ := r.get ep
      rw [hu] at h1
      have e1 := Option.some.inj h1
      cases e1
      exact ⟨Keep.refl _, fun _ q => q, rep_prD h3⟩
theorem qi_keysI {tg : Expr} {t : TD} (h : QE X e t) : QI X tg e (iKI t) :=
  pi_imp (pi_keys h) fun σ H R ⟨δ, m, Rd, g, h, q⟩ => ⟨δ, m, _, g, h, fun v H1 d m1 k g1 r ⟨kvs, e, h1⟩ => by
    subst e
    obtain ⟨a, ob, ws, rfl, ha, ru⟩ := r.dII
    exact ⟨a, ob, rfl, .inl ⟨ws, ha, q H1 _ m1 _ k g1 (walk_kI ha ru) h1⟩⟩⟩
theorem qi_keysP {tg : Expr} {t : TD} (h : QE X e t) : QI X tg e (iKP t) :=
  pi_imp (pi_keys h) fun σ H R ⟨δ, m, Rd, g, h, q⟩ => ⟨δ, m, _, g, h, fun v H1 d m1 k g1 r ⟨kvs, e, h1⟩ => by
    subst e
    obtain ⟨a, ob, ws, rfl, ha, ru⟩ := r.dPI
    exact ⟨a, ob, rfl, .inr ⟨ws, ha, q H1 _ m1 _ k g1 (walk_kP ha ru) h1⟩⟩⟩
def iIt (t : TD) : TDI := fun δ m Rd => t δ m fun d m1 => ∃ kvs, d = .dI kvs ∧ Rd (kvs.map fun p => .tup [.int p.1, p.2]) m1
theorem walk_it {K : PySem.W.Frag} {H : Hp} {a : Addr} {ob : Obj} {ws : List (Key × V)} {kvs : List (Int × D)} (h : H a = some (.frz ob (.dK ws))) (r : RepI K H kvs ws) : WalkD K (Iti a ob ws) (kvs.map fun p => .tup [.int p.1, p.2]) H where
  goes := fun i H' k hi => ⟨k _ _ h trivial, by rw [List.length_map, r.length] at hi; exact hi⟩
  stops := fun H' k => ⟨k _ _ h trivial, by rw [List.length_map, r.length]; exact Nat.le_refl _⟩
  yields := fun i H' x H2 d k y hx => by
    obtain ⟨T, kk, v, h1, h2, h3, h4⟩ := y
    subst h2 h4
    rw [List.getElem?_map] at hx
    cases ep : kvs[i]? with
    | none => rw [ep] at hx; cases hx
    | some p =>
      rw [ep] at hx
      have ed := Option.some.inj hx
      subst ed
      obtain ⟨u, hu, ru⟩ := r.get ep
      rw [hu] at h1
      have e1 := Option.some.inj h1
      cases e1
      have k2 : Keep H' (upd H' T (.tup [.int p.1, v])) := Keep.fresh h3
      exact ⟨k2, fun m q => q.fresh h3, .tup upd_same (.cons (.int _) (.cons ((ru.keep k).keep k2) .nil))⟩
theorem qi_items {elts : List Expr} {kk : Nat} {tpos apos cpos : Pos} {t : TD} (h : QE X e t) (hbase : attributeBase e ("items" : Str) X.env (eval e X.env) = eval e X.env := by rfl) (hline : (apos.endLine == cpos.line) = true := by rfl) :
    QI X (.Tuple elts kk tpos) (.Call (.Attribute e "items" apos) [] [] cpos) (iIt t) :=
  pi_imp (pi_items h hbase hline) fun σ H R ⟨δ, m, Rd, g, h, q⟩ => ⟨δ, m, _, g, h, fun v H1 d m1 k g1 r ⟨kvs, e, h1⟩ => by
    subst e
    obtain ⟨a, ob, ws, rfl, ha, ru⟩ := r.dII
    exact ⟨a, ob, ws, rfl, ha, q H1 _ m1 _ k g1 (walk_it ha ru) h1⟩⟩

/-! ### dicts made -/
def tNI : TD := fun _ m Kd => ∀ p, m p = none → Kd (.ref p) (updM m p (.dI []))
def tNP : TD := fun _ m Kd => ∀ p, m p = none → Kd (.ref p) (updM m p (.dP []))
theorem q_newI : QE X (.Dict [] [] pos) tNI := pe_imp pe_dnewK fun σ H Q ⟨δ, m, Kd, g, h, q⟩ p hp => by
  have kp := Keep.fresh (o := .dK []) hp
  exact q (.ref p) _ (.ref p) _ kp (g.next kp (g.mem.cell (c := .dI []) hp ⟨[], upd_same, .nil⟩)) (.ref p) (h p (g.mem.none_of hp))
theorem q_newP : QE X (.Dict [] [] pos) tNP := pe_imp pe_dnewT fun σ H Q ⟨δ, m, Kd, g, h, q⟩ p hp => by
  have kp := Keep.fresh (o := .dT []) hp
  exact q (.ref p) _ (.ref p) _ kp (g.next kp (g.mem.cell (c := .dP []) hp ⟨[], upd_same, .nil⟩)) (.ref p) (h p (g.mem.none_of hp))
/-- {k: v}, k a pair of whole numbers -/
def tD1 (tk tv : TD) : TD := fun δ m Kd => ∀ p, m p = none → tk δ (updM m p (.dP [])) fun x m1 => tv δ m1 fun y m2 => ∃ i j, x = .tup [.int i, .int j] ∧ m2 p = some (.dP []) ∧ Kd (.ref p) (updM m2 p (.dP [((i, j), y)]))
theorem q_disp1 {k v : Expr} {tk tv : TD} (hu : X.A.units + 1 < cLine) (hk : QE X k tk) (hv : QE X v tv) : QE X (.Dict [some k] [v] pos) (tD1 tk tv) :=
  pe_imp (pe_dispT hu hk hv) fun σ H Q ⟨δ, m, Kd, g, h, q⟩ p hp => by
    have kp := Keep.fresh (o := .dT []) hp
    refine ⟨δ, _, _, g.next kp (g.mem.cell (c := .dP []) hp ⟨[], upd_same, .nil⟩), h p (g.mem.none_of hp), fun x H1 dx m1 k1 g1 r1 h1 => ⟨δ, m1, _, g1, h1, fun y H2 dy m2 k2 g2 r2 ⟨i, j, e, hm, h2⟩ => ?_⟩⟩
    subst e
    obtain ⟨b, rfl, hb⟩ := pair_rep (r1.keep k2)
    obtain ⟨ws, hw, rw_⟩ := g2.mem p _ hm
    cases rw_
    have k3 : Keep H2 (upd H2 p (.dT [(pk (i, j), y)])) := Keep.over hw id
    exact ⟨hw, b, pk (i, j), rfl, hb, q (.ref p) _ (.ref p) _ ((((kp.trans k1)).trans k2).trans k3) (g2.next k3 (g2.mem.put (c' := .dP [((i, j), dy)]) hm ⟨_, upd_same, .cons (r2.keep k3) .nil⟩)) (.ref p) h2⟩
/-- dict(pairs) -/
def cDcI : DRC := fun ds m Kd => ∃ d kvs, ds = [d] ∧ look m d = .lst (kvs.map fun p : Int × D => .tup [.int p.1, p.2]) ∧ (kvs.map (·.1)).Nodup ∧ Kd (.dI kvs) m
def cDcP : DRC := fun ds m Kd => ∃ d kvs, ds = [d] ∧ look m d = .lst (kvs.map fun p : (Int × Int) × D => .tup [prD p.1, p.2]) ∧ (kvs.map (·.1)).Nodup ∧ Kd (.dP kvs) m
/-- a call of a built-in class whose new object is frozen -/
def tFrzC (r : List V → Hp → VK → Prop) : List V → Hp → VK → Prop := fun vs H Q => r vs H fun v H1 => ∃ p u, v = .ref p ∧ H1 p = some u ∧ Mut (some u) ∧ ∀ o, Q v (upd H1 p (.frz o u))
theorem callR_frz {f : Value} {r : List V → Hp → VK → Prop} (h : CallR X f r) : CallR X f (tFrzC r) := fun pins s σ H xs us Q I rx hq =>
  thn (h pins s σ H xs us _ I rx hq) fun v s1 ⟨x, H1, I1, r1, p, u, e, hp, mu, hk⟩ => by
    obtain ⟨od, I2⟩ := I1.lock hp mu
    exact ⟨x, _, I2, r1, hk od⟩
theorem mergeK_new : ∀ (more kvs : List (Key × V)), ((kvs ++ more).map (·.1)).Nodup → mergeK kvs more = kvs ++ more
  | [], kvs, _ => by simp [mergeK]
  | (k, v) :: more, kvs, h => by
    show mergeK (putK kvs k v) more = _
    have hk : valV kvs k = none := by
      have := valV_any k kvs
      cases e : valV kvs k with
      | none => rfl
      | some w =>
        rw [e] at this
        obtain ⟨p, hp, ep⟩ := List.any_eq_true.mp this
        rw [List.map_append, List.map_cons] at h
        exact absurd rfl ((List.nodup_append.mp h).2.2 k (List.mem_map.mpr ⟨p, hp, of_decide_eq_true ep⟩) k (List.mem_cons_self ..))
    rw [putK_new v hk, mergeK_new more (kvs ++ [(k, v)]) (by rw [List.append_assoc]; exact h), List.append_assoc]
    rfl
theorem pairs_repI {K : PySem.W.Frag} {H : Hp} : ∀ {kvs : List (Int × D)} {vs : List V}, RepL K H (kvs.map fun p => .tup [.int p.1, p.2]) vs →
    ∃ (ps : List Addr) (ws : List (Key × V)), vs = ps.map V.ref ∧ RepI K H kvs ws ∧ Paired (fun p kv => SqT K H p [kV kv.1, kv.2]) ps ws
  | [], _, r => by cases r; exact ⟨[], [], rfl, .nil, .nil⟩
  | p :: kvs, _, r => by
    cases r with
    | cons r t =>
      obtain ⟨ps, ws, rfl, h1, h2⟩ := pairs_repI t
      obtain ⟨a, us, rfl, ha, ru⟩ := r.tupI
      cases ru with
      | cons r1 t1 =>
        obtain ⟨w, rfl, r2⟩ := repL1 t1
        cases r1
        exact ⟨a :: ps, (Sum.inl p.1, w) :: ws, rfl, .cons r2 h1, .cons (.of ha) h2⟩
theorem pairs_repP {K : PySem.W.Frag} {H : Hp} : ∀ {kvs : List ((Int × Int) × D)} {vs : List V}, RepL K H (kvs.map fun p => .tup [prD p.1, p.2]) vs →
    ∃ (ps : List Addr) (ws : List (List Key × V)), vs = ps.map V.ref ∧ RepP K H kvs ws ∧ Paired (fun p kv => ∃ b, H p = some (.tup [.ref b, kv.2]) ∧ H b = some (.tup (kv.1.map kV))) ps ws
  | [], _, r => by cases r; exact ⟨[], [], rfl, .nil, .nil⟩
  | p :: kvs, _, r => by
    cases r with
    | cons r t =>
      obtain ⟨ps, ws, rfl, h1, h2⟩ := pairs_repP t
      obtain ⟨a, us, rfl, ha, ru⟩ := r.tupI
      obtain ⟨v1, v2, rfl, r1, r2⟩ := repL2 ru
      obtain ⟨b, rfl, hb⟩ := pair_rep r1
      exact ⟨a :: ps, (pk p.1, v2) :: ws, rfl, .cons r2 h1, .cons ⟨b, ha, hb⟩ h2⟩
theorem keysI {K : PySem.W.Frag} {H : Hp} : ∀ {kvs : List (Int × D)} {ws : List (Key × V)}, RepI K H kvs ws → ws.map (·.1) = (kvs.map (·.1)).map (Sum.inl : Int → Key)
  | _, _, .nil => rfl
  | _, _, .cons r t => by rw [List.map_cons, List.map_cons, List.map_cons, keysI t]
theorem keysP {K : PySem.W.Frag} {H : Hp} : ∀ {kvs : List ((Int × Int) × D)} {ws : List (List Key × V)}, RepP K H kvs ws → ws.map (·.1) = (kvs.map (·.1)).map pk
  | _, _, .nil => rfl
  | _, _, .cons r t => by rw [List.map_cons, List.map_cons, List.map_cons, keysP t]
theorem nodup_map {α β : Type} {f : α → β} (hf : ∀ a b, f a = f b → a = b) : ∀ {l : List α}, l.Nodup → (l.map f).Nodup
  | [], _ => List.nodup_nil
  | a :: l, h => by
    obtain ⟨h1, h2⟩ := List.nodup_cons.mp h
    rw [List.map_cons]
    refine List.nodup_cons.mpr ⟨fun z => ?_, nodup_map hf h2⟩
    obtain ⟨b, hb, e⟩ := List.mem_map.mp z
    exact h1 (hf b a e ▸ hb)
theorem liftDcI {K : PySem.W.Frag} : LiftC K (tFrzC fun xs H Q => ∃ (a : Addr) (ps : List Addr) (kvs : List (Key × V)), xs = [.ref a] ∧ SqL K H a (ps.map V.ref) ∧ Paired (fun p kv => SqT K H p [kV kv.1, kv.2]) ps kvs ∧ ∀ p, H p = none → Q (.ref p) (upd H p (.dK (mergeK [] kvs)))) cDcI :=
  fun σ δ H m vs ds Kd Q g r0 ⟨d, kvs, e, hd, hn, h⟩ q => by
    subst e
    obtain ⟨v, rfl, r⟩ := repL1 r0
    obtain ⟨a, us, rfl, h1, h2⟩ := look_lst g.mem r hd
    obtain ⟨ps, ws, rfl, rI, hp⟩ := pairs_repI h2
    refine ⟨a, ps, ws, rfl, h1, hp, fun p hp0 => ?_⟩
    have em : mergeK [] ws = ws := by
      rw [mergeK_new ws [] (by rw [List.nil_append, keysI rI]; exact nodup_map (fun a b e => Sum.inl.inj e) hn), List.nil_append]
    rw [em]
    refine ⟨p, .dK ws, rfl, upd_same, trivial, fun o => ?_⟩
    rw [upd_upd]
    have kp := Keep.fresh (o := .frz o (.dK ws)) hp0
    exact q (.ref p) _ (.dI kvs) m kp (g.next kp (g.mem.fresh hp0)) (.dI upd_same (rI.keep kp)) h
theorem pk_inj (a b : Int × Int) (h : pk a = pk b) : a = b := by
  have := pk_eq a b
  rw [decide_eq_true h] at this
  exact of_decide_eq_true this.symm
theorem liftDcP {K : PySem.W.Frag} : LiftC K (tFrzC (rDictT K)) cDcP :=
  fun σ δ H m vs ds Kd Q g r0 ⟨d, kvs, e, hd, hn, h⟩ q => by
    subst e
    obtain ⟨v, rfl, r⟩ := repL1 r0
    obtain ⟨a, us, rfl, h1, h2⟩ := look_lst g.mem r hd
    obtain ⟨ps, ws, rfl, rI, hp⟩ := pairs_repP h2
    refine ⟨a, ps, ws, rfl, h1, hp, by rw [keysP rI]; exact nodup_map pk_inj hn, fun p hp0 => ?_⟩
    refine ⟨p, .dT ws, rfl, upd_same, trivial, fun o => ?_⟩
    rw [upd_upd]
    have kp := Keep.fresh (o := .frz o (.dT ws)) hp0
    exact q (.ref p) _ (.dP kvs) m kp (g.next kp (g.mem.fresh hp0)) (.dP upd_same (rI.keep kp)) h
/-! ### list(tuple), list(list), list(dict), list(range(n)) -/
def cLs : DRC := fun ds m Kd => ∃ d xs, ds = [d] ∧ seqD (look m d) = some xs ∧ Kd (.lst xs) m
theorem liftLs {K : PySem.W.Frag} : LiftC K (tFrzC fun xs H Q => ∃ p ys, xs = [.ref p] ∧ (SqL K H p ys ∨ SqT K H p ys) ∧ ∀ l, H l = none → Q (.ref l) (upd H l (.lst ys))) cLs :=
  fun σ δ H m vs ds Kd Q g r0 ⟨d, xs, e, hd, h⟩ q => by
    subst e
    obtain ⟨v, rfl, r⟩ := repL1 r0
    obtain ⟨a, us, rfl, h1, h2⟩ := seq_rep g.mem r hd
    refine ⟨a, us, rfl, h1, fun p hp0 => ⟨p, .lst us, rfl, upd_same, trivial, fun o => ?_⟩⟩
    rw [upd_upd]
    have kp := Keep.fresh (o := .frz o (.lst us)) hp0
    exact q (.ref p) _ (.lst xs) m kp (g.next kp (g.mem.fresh hp0)) (.lst (.inl ⟨o, upd_same⟩) (h2.keep kp)) h
def cLd : DRC := fun ds m Kd => ∃ d kvs, ds = [d] ∧ look m d = .dP kvs ∧ Kd (.lst (kvs.map fun p => prD p.1)) m
theorem isKeys_rep {K : PySem.W.Frag} {H : Hp} : ∀ {kvs : List ((Int × Int) × D)} {ws : List (List Key × V)} {bs : List Addr}, RepP K H kvs ws → IsKeys H ws bs → RepL K H (kvs.map fun p => prD p.1) (bs.map V.ref)
  | _, _, _, .nil, .nil => .nil
  | _, _, _, .cons r t, .cons h t' => .cons (rep_prD h) (isKeys_rep t t')
theorem liftLd {K : PySem.W.Frag} : LiftC K (tFrzC fun xs H Q => ∃ d kvs, xs = [V.ref d] ∧ Rd H d (.dT kvs) ∧ ∀ p bs, H p = none → IsKeys H kvs bs → Q (.ref p) (upd H p (.lst (bs.map V.ref)))) cLd :=
  fun σ δ H m vs ds Kd Q g r0 ⟨d, kvs, e, hd, h⟩ q => by
    subst e
    obtain ⟨v, rfl, r⟩ := repL1 r0
    obtain ⟨a, ws, rfl, h1, h2⟩ := look_dP g.mem r hd
    refine ⟨a, ws, rfl, h1, fun p bs hp0 hb => ⟨p, .lst (bs.map V.ref), rfl, upd_same, trivial, fun o => ?_⟩⟩
    rw [upd_upd]
    have kp := Keep.fresh (o := .frz o (.lst (bs.map V.ref))) hp0
    exact q (.ref p) _ (.lst (kvs.map fun p => prD p.1)) m kp (g.next kp (g.mem.fresh hp0)) (.lst (.inl ⟨o, upd_same⟩) ((isKeys_rep h2 hb).keep kp)) h
def tLr (t : TD) : TD := fun δ m Kd => t δ m fun d m1 => ∃ n : Nat, d = .int n ∧ n ≤ 1000 ∧ Kd (.lst ((List.range n).map fun i => .int (i : Nat))) m1
theorem rg0 (n : Nat) : rgD 0 n = (List.range n).map fun i => D.int (i : Nat) := by
  unfold rgD
  refine List.map_congr_left fun i _ => ?_
  rw [Int.zero_add]
theorem q_listRg {a : Expr} {p pos p2 : Pos} {t : TD} (hc : X.calm = true) (hg : Gl X "list") (hm : X.mg "list" = none) (hg2 : Gl X "range") (hm2 : X.mg "range" = none) (ha : QE X a t)
    (na : starEach [a] X.env = (false, eval a X.env) :: starEach [] X.env := by rfl) (na2 : starEach [.Call (.Name "range" p2) [a] [] pos] X.env = (false, eval (.Call (.Name "range" p2) [a] [] pos) X.env) :: starEach [] X.env := by rfl) : QE X (.Call (.Name "list" p) [.Call (.Name "range" p2) [a] [] pos] [] pos2) (tLr t) :=
  pe_imp (pe_frz (pe_listRg hc hg hm (prg_1 hg2 hm2 ha na) na2)) fun σ H Q ⟨δ, m, Kd, g, h, q⟩ => ⟨δ, m, _, g, h, fun v H1 d m1 k g1 r ⟨n, e, hn, h1⟩ => by
    subst e
    cases r
    refine ⟨n, rfl, RgOk.of_le (by omega) (by omega) (by omega) (by omega), fun p hp => ⟨p, _, rfl, upd_same, trivial, fun o => ?_⟩⟩
    rw [upd_upd]
    have kp := Keep.fresh (o := .frz o (.lst (rgV 0 (n : Int)))) hp
    refine q (.ref p) _ _ m1 (k.trans kp) (g1.next kp (g1.mem.fresh hp)) (.lst (.inl ⟨o, upd_same⟩) ?_) h1
    have e1 : rgV 0 (n : Int) = ((List.range n).map fun i => ((i : Nat) : Int)).map V.int := by
      unfold rgV
      rw [List.map_map, show ((n : Int) - 0).toNat = n by omega]
      refine List.map_congr_left fun i _ => ?_
      show V.int (0 + (i : Int)) = V.int (i : Int)
      rw [Int.zero_add]
    have e2 : ((List.range n).map fun i => D.int (i : Nat)) = ((List.range n).map fun i => ((i : Nat) : Int)).map D.int := by rw [List.map_map]; rfl
    rw [e1, e2]
    exact repL_ints _⟩
/-! ### tuples joined, repeated, cut -/
def dCat : DR2 := fun x y m Kd => ∃ xs ys, x = .tup xs ∧ y = .tup ys ∧ xs ≠ [] ∧ ys ≠ [] ∧ xs.length + ys.length ≤ sizeLine ∧ Kd (.tup (xs ++ ys)) m
theorem liftCat {K : PySem.W.Frag} : LiftR2 K (rCatA K) dCat := fun σ δ H m x y dx dy Kd Q g rx ry ⟨xs, ys, e1, e2, n1, n2, hl, h⟩ q => by
  subst e1 e2
  obtain ⟨a, us, rfl, ha, ru⟩ := rx.tupI
  obtain ⟨b, ws, rfl, hb, rw_⟩ := ry.tupI
  have z1 : us ≠ [] := fun z => by subst z; cases ru; exact n1 rfl
  have z2 : ws ≠ [] := fun z => by subst z; cases rw_; exact n2 rfl
  refine ⟨a, b, us, ws, rfl, rfl, .of ha, .of hb, by rw [← ru.length, ← rw_.length]; exact hl, fun z => absurd z z1, fun _ z => absurd z z2, fun _ _ p hp => ?_⟩
  have kp := Keep.fresh (o := .tup (us ++ ws)) hp
  exact q (.ref p) _ (.tup (xs ++ ys)) m kp (g.next kp (g.mem.fresh hp)) (.tup upd_same ((ru.app rw_).keep kp)) h
def tSl2 (k : Nat) (t : TD) : TD := fun δ m Kd => t δ m fun d m1 => ∃ xs, d = .tup xs ∧ k ≤ xs.length ∧ 0 < k ∧ Kd (.tup (xs.drop k)) m1
/-- t[k:], k a written number above nought -/
theorem q_drop {a : Expr} {k j : Nat} {p1 p2 : Pos} {t : TD} (ha : QE X a t) : QE X (.Subscript a (.Slice (some (.Constant (.int k) j p1)) none none p2) pos) (tSl2 k t) :=
  pe_imp (pe_slice sl_tupA ha (po_some pe_int) po_none) fun σ H Q ⟨δ, m, Kd, g, h, q⟩ => ⟨δ, m, _, g, h, fun v H1 d m1 kk g1 r ⟨xs, e, hk, h0, h1⟩ => by
    subst e
    obtain ⟨a, us, rfl, ha, ru⟩ := r.tupI
    have hl := ru.length
    refine ⟨(k : Int), rfl, a, us, rfl, .of ha, fun z => ?_, fun _ p hp => ?_⟩
    · rw [HT.sIx_nat] at z
      omega
    · have ec : cutV us (some (k : Int)) none = us.drop k := by
        unfold cutV
        rw [HT.sIx_nat, HT.sIx_none, Nat.min_eq_left (by omega)]
        exact List.take_of_length_le (by rw [List.length_drop]; omega)
      rw [ec]
      have kp := Keep.fresh (o := .tup (us.drop k)) hp
      exact q (.ref p) _ (.tup (xs.drop k)) m1 (kk.trans kp) (g1.next kp (g1.mem.fresh hp)) (.tup upd_same ((ru.drop k).keep kp)) h1⟩
end
end MW

end
section
set_option Elab.async false
set_option linter.all false
set_option maxRecDepth 100000
/-! MwFn: a def with its promise as one fact; what is known of the top's constants. -/
namespace MW
open PySem PySem.Spec PyProof.Rows L2
/-- the def named x, of the parameters ps, keeps the promise S by at most level k -/
def Fd (P : Program) (w : World) (K : PySem.W.Frag) (mg : Str → Option Value) (base : Heap) (k : Nat) (x : Str) (ps : List Str) (S : DSp) : Prop :=
  ∃ (f : Addr) (fd : FuncData), FnOk P w K mg base CX0 k f fd ps (spD K S) ∧ mg x = some (.ref f) ∧ PySem.W.keepIn K (.ref f) = true ∧ Binds K fd ps []
section
variable {X : Cx} {k : Nat} {ps : List Str} {S : DSp} {x : Str} {p pos : Pos} {e : Expr} {es : List Expr} {t : TDA}
theorem q_fd (F : Fd X.prog X.w X.K X.mg X.base k x ps S) (hr : Room k X.A) (hg : Gl X x) (ha : QA X (e :: es) t)
    (hd : (x == ("__debug__" : Str)) = false := by decide) (he : starEach (e :: es) X.env = (false, eval e X.env) :: starEach es X.env := by rfl) (hpl : (backTo pos (starEach es X.env)).any (·.1) = false := by rfl) :
    QE X (.Call (.Name x p) (e :: es) [] pos) (tCl S t) := by
  obtain ⟨f, fd, F, hm, hk, hb⟩ := F
  exact q_call F hr hg hm hk hb ha hd he hpl
theorem q_negc {i : Int} {j : Nat} {p : Pos} : QE X (.UnaryOp .USub (.Constant (.int i) j p) pos) (tCo (.int (-i))) :=
  pe_imp (pe_un un_neg pe_int) fun σ H Q ⟨δ, m, Kd, g, h, q⟩ => ⟨i, rfl, q _ H _ m (Keep.refl H) g (.int _) h⟩
end
/-- what the defs lean on of the top: the built-ins' names are free, the constants -/
structure Txt (mg : Str → Option Value) : Prop where
  len : mg "len" = none
  isi : mg "isinstance" = none
  rng : mg "range" = none
  tup : mg "tuple" = none
  lst : mg "list" = none
  int : mg "int" = none
  bool : mg "bool" = none
  all : mg "all" = none
  any : mg "any" = none
  max : mg "max" = none
  min : mg "min" = none
  abs : mg "abs" = none
  dict : mg "dict" = none
  enum : mg "enumerate" = none
  sorted : mg "sorted" = none
  gMOST : ∃ t, mg "MOST" = some (.int 100 t)
  gWIDE : ∃ t, mg "WIDE" = some (.int 9 t)
  gDEAR : ∃ t, mg "DEAR" = some (.int 99 t)
  gASKS : ∃ t, mg "MOST_ASKS" = some (.int 81 t)
  gANS : ∃ t, mg "MOST_ANSWERS" = some (.int 9 t)
  gBROAD : ∃ t, mg "BROAD" = some (.int 120 t)
section
variable {X : Cx} {pos : Pos}
theorem q_gi {x : Str} {i : Int} (hg : Gl X x) (hm : ∃ t, X.mg x = some (.int i t)) (hd : (x == ("__debug__" : Str)) = false := by decide) : QE X (.Name x pos) (tCo (.int i)) := by
  obtain ⟨t, hm⟩ := hm
  exact q_gint hg hm hd
end
end MW

end
section
set_option Elab.async false
set_option linter.all false
set_option maxRecDepth 100000
/-! MwLock: a dict's comprehension as a cell; a comprehension over a cell that is locked meanwhile. -/
namespace MW
open PySem PySem.Spec PyProof.Rows L2
section
variable {X : Cx} {pos : Pos}
theorem dc_lowC {K : PySem.W.Frag} {I : TDI} {G : TDG} {tt : TDT} {tk tv : TD} {vs : List Nat} {σ : L2.St} {H : Hp} {δ : Sl} {m : Mem} {Kd : D → Mem → Prop} {Q0 : VK} (g : Good K H m σ δ) (h : tDC I vs G tt tk tv δ m Kd)
    (hQ : ∀ p H2 m2 acc, Keep H H2 → MOk K H2 m2 → m2 p = some (.dI acc) → Kd (.dI acc) (delM m2 p) → Q0 (.ref p) H2) :
    tDc (lowI K I) (lowG K vs G) (lowT K tt) (low K tk) (low K tv) vs σ H Q0 := by
  refine ⟨δ, m, _, g, h, fun H1 xs m1 J k1 g1 wk ⟨hsz, hh⟩ => fun p hp => ?_⟩
  obtain ⟨Iv, i0, turn, fin⟩ := hh p (g1.mem.none_of hp)
  have kp : Keep H1 (upd H1 p (.dK [])) := Keep.fresh hp
  refine ⟨fun i n H' => n + i = xs.length ∧ ∃ m', Keep H1 H' ∧ MOk K H' m' ∧ Iv i m', ⟨xs.length, by omega, _, kp, g1.mem.cell (c := .dI []) hp ⟨[], upd_same, .nil⟩, i0⟩, fun i n H2 ⟨hn, m2, k2, g2, w2⟩ => ?_⟩
  by_cases hlt : i < xs.length
  · have hx : xs[i]? = some xs[i] := List.getElem?_eq_getElem hlt
    refine .inr ⟨wk.goes i H2 k2 hlt, fun H' => (n - 1) + (i + 1) = xs.length ∧ ∃ m', Keep H1 H' ∧ MOk K H' m' ∧ Iv (i + 1) m', fun H' w => ⟨n - 1, by omega, w⟩, fun x H3 hy => ?_⟩
    obtain ⟨k3, hm, r3⟩ := wk.yields i H2 x H3 xs[i] k2 hy hx
    refine ⟨xs[i], wipeD δ vs, m2, _, ⟨hm m2 g2, (g1.sl.keep (k2.trans k3)).wipe _⟩, r3, turn i xs[i] m2 hx w2, fun σ4 H4 δ4 m4 k4 g4 hw h4 => ⟨by rw [hw, wipe_wipe], ?_⟩⟩
    have kk := (k2.trans k3).trans k4
    refine ⟨δ4, m4, _, g4, h4, fun b H5 m5 k5 g5 h5 => ?_⟩
    cases b with
    | false =>
      rw [if_neg Bool.false_ne_true]
      exact ⟨by omega, m5, kk.trans k5, g5.mem, h5.2 rfl⟩
    | true =>
      rw [if_pos rfl]
      refine ⟨δ4, m5, _, g5, h5.1 rfl, fun y H6 dy m6 k6 g6 r6 h6 => ⟨δ4, m6, _, g6, h6, fun z H7 d m7 k7 g7 r7 ⟨k, ek, acc, ha, hl, h7⟩ => ?_⟩⟩
      subst ek
      cases r6
      obtain ⟨us, hu, ru⟩ := g7.mem p _ ha
      have k8 : Keep H7 (upd H7 p (.dK (putK us (Sum.inl k) z))) := Keep.over hu id
      refine ⟨us, Sum.inl k, rfl, hu, by rw [← ru.length]; exact hl, by omega, _, (((kk.trans k5).trans k6).trans k7).trans k8, g7.mem.put (c' := .dI (putI acc k d)) ha ⟨_, upd_same, repI_put (r7.keep k8) (ru.keep k8)⟩, h7⟩
  · have e : i = xs.length := by omega
    subst e
    obtain ⟨acc, ha, hk⟩ := fin m2 w2
    exact .inl ⟨wk.stops H2 k2, hQ p H2 m2 acc (k1.trans k2) g2 ha hk⟩
/-- {k: v for ..}, a cell -/
def tDCl (I : TDI) (vs : List Nat) (G : TDG) (tt : TDT) (tk tv : TD) : TD := fun δ m Kd => tDC I vs G tt tk tv δ m fun d m' => ∀ p, m' p = none → Kd (.ref p) (updM m' p d)
theorem updM_delM {m : Mem} {p : Addr} {c : D} (h : m p = some c) : updM (delM m p) p c = m := by
  funext b
  by_cases e : b = p
  · rw [e, updM_same, h]
  · rw [updM_ne e, delM_ne e]
theorem q_dcCell {kx vx tg iter : Expr} {ifs : List Expr} {scope : Scope} {own : List (Str × Nat)} {I : TDI} {G : TDG} {tt : TDT} {tk tv : TD} (hc : X.calm = true) (hN : X.N.Nodup) (hi : QI X tg iter I) (ok : BlkOk X.N X.env.scope scope own)
    (hg : ∀ (s : Shared) (H : Hp) (C : Addr) (cl : List (Str × Addr)) (fp : List Addr), QG (X.blk s H scope (compEnvC scope cl C X.env) fp) (own.map (·.2)) tg G)
    (ht : ∀ (s : Shared) (H : Hp) (C : Addr) (cl : List (Str × Addr)) (fp : List Addr), QTs (X.blk s H scope (compEnvC scope cl C X.env) fp) ifs tt)
    (hk : ∀ (s : Shared) (H : Hp) (C : Addr) (cl : List (Str × Addr)) (fp : List Addr), QE (X.blk s H scope (compEnvC scope cl C X.env) fp) kx tk)
    (he : ∀ (s : Shared) (H : Hp) (C : Addr) (cl : List (Str × Addr)) (fp : List Addr), QE (X.blk s H scope (compEnvC scope cl C X.env) fp) vx tv)
    (hs : ∀ x, foldedSetIterable iter X.env x = pure x := by intro _; rfl) : QE X (.DictComp kx vx [⟨tg, iter, ifs, 0⟩] scope pos) (tDCl I (own.map (·.2)) G tt tk tv) :=
  pe_imp (pe_dc (g := lowG X.K (own.map (·.2)) G) (tt := lowT X.K tt) (tk := low X.K tk) (tv := low X.K tv) hc hN hi ok hg ht hk he hs) fun σ H Q ⟨δ, m, Kd, g, h, q⟩ => dc_lowC g h fun p H2 m2 acc k2 g2 ha hk => by
    have := hk p delM_same
    rw [updM_delM ha] at this
    exact q (.ref p) H2 (.ref p) m2 k2 (g.next k2 g2) (.ref p) this

/-! ### data that touch no frozen thing -/
mutual
def grd : D → Bool
  | .non => true
  | .bl _ => true
  | .int _ => true
  | .str _ => true
  | .ty _ => true
  | .ref _ => true
  | .tup xs => grds xs
  | _ => false
def grds : List D → Bool
  | [] => true
  | d :: ds => grd d && grds ds
end
def grdC : D → Bool
  | .lst ds => grds ds
  | .dI kvs => kvs.all fun p => grd p.2
  | .dP kvs => kvs.all fun p => grd p.2
  | .tab _ => true
  | _ => false
def grdM (m : Mem) : Prop := ∀ p c, m p = some c → grdC c = true
theorem grdM.upd {m : Mem} {p : Addr} {c : D} (h : grdM m) (hc : grdC c = true) : grdM (updM m p c) := fun q d e => by
  by_cases hq : q = p
  · subst hq; rw [updM_same] at e; cases e; exact hc
  · rw [updM_ne hq] at e; exact h q d e
theorem grdM.del {m : Mem} {p : Addr} (h : grdM m) : grdM (delM m p) := fun q d e => by
  by_cases hq : q = p
  · subst hq; rw [delM_same] at e; cases e
  · rw [delM_ne hq] at e; exact h q d e
theorem grdM.sub {m m' : Mem} (h : grdM m) (s : SubM m' m) : grdM m' := fun q d e => h q d (s q d e)
section
variable {K : PySem.W.Frag} {H H' : Hp}
mutual
theorem rep_grd (tu : ∀ a xs, H a = some (.tup xs) → H' a = some (.tup xs)) : ∀ {d : D} {v : V}, Rep K H d v → grd d = true → Rep K H' d v
  | _, _, .non, _ => .non
  | _, _, .bl b, _ => .bl b
  | _, _, .int i, _ => .int i
  | _, _, .str x, _ => .str x
  | _, _, .ty n, _ => .ty n
  | _, _, .ref a, _ => .ref a
  | _, _, .tup h r, g => .tup (tu _ _ h) (repL_grd tu r (by simpa [grd] using g))
  | _, _, .lst _ _, g => by simp [grd] at g
  | _, _, .dI _ _, g => by simp [grd] at g
  | _, _, .dP _ _, g => by simp [grd] at g
  | _, _, .obj _ _, g => by simp [grd] at g
theorem repL_grd (tu : ∀ a xs, H a = some (.tup xs) → H' a = some (.tup xs)) : ∀ {ds : List D} {vs : List V}, RepL K H ds vs → grds ds = true → RepL K H' ds vs
  | _, _, .nil, _ => .nil
  | _, _, .cons r t, g => by
    rw [grds, Bool.and_eq_true] at g
    exact .cons (rep_grd tu r g.1) (repL_grd tu t g.2)
end
theorem repI_grd (tu : ∀ a xs, H a = some (.tup xs) → H' a = some (.tup xs)) : ∀ {kvs : List (Int × D)} {ws : List (Key × V)}, RepI K H kvs ws → (kvs.all fun p => grd p.2) = true → RepI K H' kvs ws
  | _, _, .nil, _ => .nil
  | _, _, .cons r t, g => by
    rw [List.all_cons, Bool.and_eq_true] at g
    exact .cons (rep_grd tu r g.1) (repI_grd tu t g.2)
theorem repP_grd (tu : ∀ a xs, H a = some (.tup xs) → H' a = some (.tup xs)) : ∀ {kvs : List ((Int × Int) × D)} {ws : List (List Key × V)}, RepP K H kvs ws → (kvs.all fun p => grd p.2) = true → RepP K H' kvs ws
  | _, _, .nil, _ => .nil
  | _, _, .cons r t, g => by
    rw [List.all_cons, Bool.and_eq_true] at g
    exact .cons (rep_grd tu r g.1) (repP_grd tu t g.2)
theorem SOk.setD {d : D} {v : V} (r : Rep K H d v) {σ : L2.St} {δ : Sl} {j : Nat} (s : SOk K H σ δ) (h : σ[j]? = some (some v)) : SOk K H σ (δ.set j (some d)) := by
  have := s.set r j
  have e : σ.set j (some v) = σ := by
    refine List.ext_getElem? fun i => ?_
    rw [List.getElem?_set]
    split
    · rename_i e
      subst e
      split
      · exact h.symm
      · rename_i z
        rw [List.getElem?_eq_none (by omega)]
    · rfl
  rw [e] at this
  exact this
end
/-- name = {k: v for .. in other}, other a cell that is locked meanwhile -/
def tAsLL (j i : Nat) (t : TD) : TDS := fun DD δ m => ∃ p kvs, δ[j]? = some (some (.ref p)) ∧ m p = some (.dI kvs) ∧ i < δ.length ∧
  t (δ.set j (some (.dI kvs))) (delM m p) fun d m' => ∃ acc, d = .dI acc ∧ (acc.all fun p => grd p.2) = true ∧ grdM m' ∧ DD.nx (δ.set i (some d)) (updM m' p (.dI kvs))
theorem cell_grd {K : PySem.W.Frag} {H H' : Hp} {b : Addr} {c : D} (k : CellOk K H b c) (gc : grdC c = true) (e : H' b = H b) (tu : ∀ a xs, H a = some (.tup xs) → H' a = some (.tup xs)) (ex : ∀ a q, H a = some (LamX.CodeO a q) → H' a = some (LamX.CodeO a q)) : CellOk K H' b c := by
  cases c <;> first | exact (show False from k).elim | skip
  · obtain ⟨ws, h, r⟩ := k
    exact ⟨ws, e.trans h, repL_grd tu r gc⟩
  · obtain ⟨ws, h, r⟩ := k
    exact ⟨ws, e.trans h, repI_grd tu r gc⟩
  · obtain ⟨ws, h, r⟩ := k
    exact ⟨ws, e.trans h, repP_grd tu r gc⟩
  · obtain ⟨ws, h, t, r⟩ := k
    exact ⟨ws, e.trans h, t, fun pos cv hc => by
      obtain ⟨c, e1, e2⟩ := r pos cv hc
      exact ⟨c, e1, ex _ _ e2⟩⟩
theorem qs_setDcL {j i : Nat} {y : Str} {py : Pos} {kx vx tg iter : Expr} {ifs : List Expr} {scope : Scope} {own : List (Str × Nat)} {spos : Pos} {I : TDI} {G : TDG} {tt : TDT} {tk tv : TD} (hc : X.calm = true) (hN : X.N.Nodup) (hy : X.N[i]? = some y) (hyl : X.env.scope.names.lookup y = some .local)
    (hsw : swapsWith (.DictComp kx vx [⟨tg, iter, ifs, 0⟩] scope pos) (some (.Name y py)) spos.line X.env = pure true) (hi : QI X tg iter I) (ok : BlkOk X.N X.env.scope scope own)
    (hg : ∀ (s : Shared) (H : Hp) (C : Addr) (cl : List (Str × Addr)) (fp : List Addr), QG (X.blk s H scope (compEnvC scope cl C X.env) fp) (own.map (·.2)) tg G)
    (ht : ∀ (s : Shared) (H : Hp) (C : Addr) (cl : List (Str × Addr)) (fp : List Addr), QTs (X.blk s H scope (compEnvC scope cl C X.env) fp) ifs tt)
    (hk : ∀ (s : Shared) (H : Hp) (C : Addr) (cl : List (Str × Addr)) (fp : List Addr), QE (X.blk s H scope (compEnvC scope cl C X.env) fp) kx tk)
    (he : ∀ (s : Shared) (H : Hp) (C : Addr) (cl : List (Str × Addr)) (fp : List Addr), QE (X.blk s H scope (compEnvC scope cl C X.env) fp) vx tv)
    (hs : ∀ x, foldedSetIterable iter X.env x = pure x := by intro _; rfl) : QS X (.Assign [.Name y py] (.DictComp kx vx [⟨tg, iter, ifs, 0⟩] scope pos) spos) (tAsLL j i (tDC I (own.map (·.2)) G tt tk tv)) :=
  ps_imp (ps_frzS (i := i) (ps_lock (ps_setDc (g := lowG X.K (own.map (·.2)) G) (tt := lowT X.K tt) (tk := low X.K tk) (tv := low X.K tv) hc hN hy hyl hsw hi ok hg ht hk he hs))) fun D σ H ⟨δ, m, DD, g, ⟨p, kvs, hj, hp, hlt, h⟩, E⟩ => by
    obtain ⟨ws, hw, rw_⟩ := g.mem p _ hp
    obtain ⟨vj, ej, rj⟩ := g.sl.get hj
    cases rj
    refine ⟨p, .dK ws, hw, trivial, fun od => ?_⟩
    have kL : Keep H (upd H p (.frz od (.dK ws))) := Keep.over hw id
    have gL : Good X.K (upd H p (.frz od (.dK ws))) (delM m p) σ (δ.set j (some (.dI kvs))) := ⟨g.mem.drop hp, (g.sl.keep kL).setD (.dI upd_same (rw_.keep kL)) ej⟩
    refine dc_lowC gL h fun q H2 m2 acc k2 g2 hq ⟨acc', e, ga, gm, hn⟩ => ?_
    cases e
    have hp2 : H2 p = some (.frz od (.dK ws)) := k2 p _ upd_same trivial
    obtain ⟨us, hu, ru⟩ := g2 q _ hq
    have npq : q ≠ p := fun z => by rw [z, hp2] at hu; cases hu
    refine ⟨hp2, q, .dK us, by rw [List.getElem?_set_self (by rw [g.sl.length]; exact hlt)], by rw [upd_ne npq]; exact hu, trivial, fun o => ?_⟩
    have kf : Keep H (upd (upd H2 p (.dK ws)) q (.frz o (.dK us))) := fun b u e st => by
      have hb : b ≠ p := fun z => by rw [z, hw] at e; cases e; exact st
      have e2 : H2 b = some u := k2 b u (by rw [upd_ne hb]; exact e) st
      have hbq : b ≠ q := fun z => by rw [z, hu] at e2; cases e2; exact st
      rw [upd_ne hbq, upd_ne hb]
      exact e2
    have at_ : ∀ b, b ≠ p → b ≠ q → upd (upd H2 p (.dK ws)) q (.frz o (.dK us)) b = H2 b := fun b h1 h2 => by rw [upd_ne h2, upd_ne h1]
    have tu : ∀ a xs, H2 a = some (.tup xs) → upd (upd H2 p (.dK ws)) q (.frz o (.dK us)) a = some (.tup xs) := fun a xs e => by
      rw [at_ a (fun z => by rw [z, hp2] at e; cases e) (fun z => by rw [z, hu] at e; cases e)]
      exact e
    have ex : ∀ a q', H2 a = some (LamX.CodeO a q') → upd (upd H2 p (.dK ws)) q (.frz o (.dK us)) a = some (LamX.CodeO a q') := fun a q' e => by
      rw [at_ a (fun z => by rw [z, hp2] at e; cases e) (fun z => by rw [z, hu] at e; cases e)]
      exact e
    refine E.nx _ _ (δ.set i (some (.dI acc))) _ kf ⟨fun b c hb => ?_, (g.sl.keep kf).set (.dI upd_same (repI_grd tu ru ga)) i⟩ hn
    by_cases hbp : b = p
    · subst hbp
      rw [updM_same] at hb
      cases hb
      exact ⟨ws, by rw [upd_ne (Ne.symm npq), upd_same], rw_.keep kf⟩
    · rw [updM_ne hbp] at hb
      have gc := gm b c hb
      have hbq : b ≠ q := fun z => by rw [z, delM_same] at hb; cases hb
      rw [delM_ne hbq] at hb
      exact cell_grd (g2 b c hb) gc (at_ b hbp hbq) tu ex
end
end MW

end
section
set_option Elab.async false
set_option linter.all false
set_option maxRecDepth 100000
/-! MwClo: a def within a def, with cells of its own and captured names, handed to another def and called there. -/
namespace MW
open PySem PySem.Spec PyProof.Rows L2 LamX NdefX

theorem cellsFrom_app : ∀ (names : List (Str × NameKind)) (n : Nat) (acc : List (Str × Addr)), cellsFrom n names acc = cellsFrom n names [] ++ acc
  | [], n, acc => rfl
  | (y, kd) :: r, n, acc => by
    unfold cellsFrom
    split
    · rw [cellsFrom_app r (n + 1) ((y, n) :: acc), cellsFrom_app r (n + 1) [(y, n)]]
      simp
    · exact cellsFrom_app r n acc
theorem cellsFrom_own : ∀ (names : List (Str × NameKind)) (n : Nat) {y : Str} {c : Addr}, (y, c) ∈ cellsFrom n names [] → (y, NameKind.cell) ∈ names
  | [], n, y, c, h => by cases h
  | (z, kd) :: r, n, y, c, h => by
    unfold cellsFrom at h
    split at h
    · rename_i hk
      rw [cellsFrom_app] at h
      rcases List.mem_append.mp h with h | h
      · exact List.mem_cons_of_mem _ (cellsFrom_own r _ h)
      · simp at h
        have ek : kd = .cell := by simpa using hk
        rw [h.1, ek]
        exact List.mem_cons_self ..
    · exact List.mem_cons_of_mem _ (cellsFrom_own r _ h)
/-- a frame with captured cells and cells of its own; the parameters are plain -/
theorem wpAny_newFunctionEnvG {M : Model} {A : Around} {E : Value → Shared → Prop} {s : Shared} {scope : Scope} {globals : Addr} {closure : List (Str × Addr)} {binds : List (Str × Value)} {qual : Str} {func : Option Addr} {code : Value} {builtins : Addr} {Q : Env → Shared → Prop}
    (hl : ∀ x ∈ binds, scope.names.lookup x.1 = some .local)
    (hQ : ∀ h', h'.Ns s.heap.objs.size (fun x => binds.reverse.lookup x) →
      Heap.SameBut s.heap.objs.size (pushCells (s.heap.push { cls := .type "frame", data := .dict #[] }) scope.names) h' →
      Q (newEnv scope s.heap.objs.size globals (cellsFrom (s.heap.objs.size + 1) scope.names closure) qual func code none builtins) { s with heap := h', toks := s.toks + binds.length })
    (hk : scope.kind = .function) :
    wpAny M A (newFunctionEnv scope globals closure binds qual func code none builtins) Q E s := by
  simp only [newFunctionEnv, Option.isSome_none, Bool.false_eq_true, if_false]
  refine wpAny_bind (wpAny_alloc ?_)
  refine wpAny_bind (wpAny_layCells _ (fun name kind cells => by cases hkc : kind == NameKind.cell <;> simp [hkc]) _ _ _ _ ?_)
  rw [show ({ s with heap := s.heap.push { cls := .type "frame", data := .dict #[] } } : Shared).heap.objs.size = s.heap.objs.size + 1 from Heap.size_push ..]
  simp only [newEnv] at hQ
  refine wpAny_bind ?_
  refine wpAny_forIn_list _
    (fun rest _ s' => ∃ done h', binds = done ++ rest ∧ s' = { s with heap := h', toks := s.toks + done.length } ∧
      h'.Ns s.heap.objs.size (fun x => done.reverse.lookup x) ∧
      Heap.SameBut s.heap.objs.size (pushCells (s.heap.push { cls := .type "frame", data := .dict #[] }) scope.names) h') _ ?_ ?_ binds _
    ⟨[], _, rfl, rfl, (Heap.Ns.new s.heap (.type "frame")).keeps (pushCells_keeps _ _), Heap.SameBut.refl ..⟩
  · rintro ⟨name, v⟩ rest _ s' ⟨done, h', hb, rfl, hns, hsb⟩
    have hk' : Env.kindOf { scope, locals := s.heap.objs.size, globals, cells := cellsFrom (s.heap.objs.size + 1) scope.names closure, qual, func, code, frame := some s.heap.objs.size, builtins } name = some .local :=
      hl (name, v) (by rw [hb]; simp)
    have hp : (({ scope, locals := s.heap.objs.size, globals, cells := cellsFrom (s.heap.objs.size + 1) scope.names closure, qual, func, code, frame := some s.heap.objs.size, builtins } : Env).scope.kind == .class || (({ scope, locals := s.heap.objs.size, globals, cells := cellsFrom (s.heap.objs.size + 1) scope.names closure, qual, func, code, frame := some s.heap.objs.size, builtins } : Env).scope.kind == .module &&
        ({ scope, locals := s.heap.objs.size, globals, cells := cellsFrom (s.heap.objs.size + 1) scope.names closure, qual, func, code, frame := some s.heap.objs.size, builtins } : Env).locals != ({ scope, locals := s.heap.objs.size, globals, cells := cellsFrom (s.heap.objs.size + 1) scope.names closure, qual, func, code, frame := some s.heap.objs.size, builtins } : Env).globals)) = false := by
      show (scope.kind == .class || (scope.kind == .module && _)) = false
      rw [hk]; rfl
    simp only [storeName_local hk' hp]
    refine wpAny_bind (wpAny_nsSet hns fun h'' hns' hsb' => wpAny_pure ⟨done ++ [(name, v)], h'', by simp [hb], ?_, ?_, hsb.trans hsb'⟩)
    · simp [Nat.add_assoc]
    · rw [lookup_reverse_snoc]; exact hns'
  · rintro _ s' ⟨done, h', hb, rfl, hns, hsb⟩
    rw [List.append_nil] at hb; subst hb
    exact wpAny_pure (hQ h' hns hsb)

/-- its names: the parameters, then the captured ones, then its locals and cells -/
structure CScope (N ps fr : List Str) (sc : Scope) : Prop where
  kind : sc.kind = .function
  co : sc.isCoroutine = false
  gen : sc.isGenerator = false
  nd : N.Nodup
  pre : N.take (ps.length + fr.length) = ps ++ fr
  par : ∀ x ∈ ps, sc.names.lookup x = some .local
  sep : ∀ y ∈ sc.names, y.2 = .cell → y.1 ∉ fr
  free : ∀ y ∈ sc.names, y.2 = .free → y.1 ∈ fr
  frk : ∀ x ∈ fr, sc.names.lookup x = some .free
def cscB (N ps fr : List Str) (sc : Scope) : Bool :=
  decide (sc.kind = .function) && !sc.isCoroutine && !sc.isGenerator && decide N.Nodup && decide (N.take (ps.length + fr.length) = ps ++ fr) && ps.all (fun x => decide (sc.names.lookup x = some .local)) && sc.names.all (fun y => !decide (y.2 = .cell) || !decide (y.1 ∈ fr)) && sc.names.all (fun y => !decide (y.2 = .free) || decide (y.1 ∈ fr)) && fr.all (fun x => decide (sc.names.lookup x = some .free))
theorem cscope_by {N ps fr : List Str} {sc : Scope} (h : cscB N ps fr sc = true) : CScope N ps fr sc := by
  unfold cscB at h
  simp only [Bool.and_eq_true, Bool.not_eq_true', decide_eq_true_eq, List.all_eq_true, Bool.or_eq_true, decide_eq_false_iff_not] at h
  obtain ⟨⟨⟨⟨⟨⟨⟨⟨h1, h2⟩, h3⟩, h4⟩, h5⟩, h6⟩, h7⟩, h8⟩, h9⟩ := h
  exact ⟨h1, h2, h3, h4, h5, h6, fun y hy e => (h7 y hy).elim (fun z => absurd e z) id, fun y hy e => (h8 y hy).elim (fun z => absurd e z) id, h9⟩
abbrev envG (F : NF) (f L : Addr) : Env := PySem.W.envX F.qual F.scope L f (.ref F.c) (cellsFrom (L + 1) F.scope.names F.cl)
/-- the context of its body, at its entry -/
def gcx (CX : CXT) (P : Program) (w : World) (K : PySem.W.Frag) (mg : Str → Option Value) (base : Heap) (N : List Str) (F : NF) (f : Addr) (A : Around) (outer : List Env) (s : Shared) (H : Hp) (E : XK) : Cx where
  prog := P
  w := w
  K := K
  mg := mg
  base := base
  A := A.deeper (envG F f s.heap.objs.size)
  N := N
  s_0 := s
  H_0 := H
  env := envG F f s.heap.objs.size
  outer := outer
  stack := envG F f s.heap.objs.size :: outer
  ex := []
  calm := true
  fn := fun x => decide (F.scope.names.lookup x = some .cell)
  pn := []
  xe := fun e s' => wpAny (model P w) (A.deeper (envG F f s.heap.objs.size)) (leaving (envG F f s.heap.objs.size) e) (fun _ s'' => CX outer H s E e s'') (fun e' s'' => CX outer H s E e' s'') s'
section
variable {CX : CXT} {P : Program} {w : World} {K : PySem.W.Frag} {mg : Str → Option Value} {base : Heap} {N ps fr : List Str} {F : NF} {f : Addr} {A : Around} {outer : List Env} {s : Shared} {H : Hp} {E : XK} {us : List Value} {vs : List V} {ws : List (Option V)}
theorem inv_startG {h₁ : Heap} {tk : Nat} (S : CScope N ps fr F.scope) (hd : A.handled = none) (e0 : Env0 P w K mg base A outer s H) (hl : vs.length = ps.length) (r : Vals vs us) (C : CellsAt F.cl fr ws s.heap H) (hns : h₁.Ns s.heap.objs.size fun y => (ps.zip us).reverse.lookup y)
    (kp : ∀ b o, s.heap.get? b = some o → h₁.get? b = some o) (own : CellsOk h₁ (s.heap.objs.size + 1) (cellsFrom (s.heap.objs.size + 1) F.scope.names [])) : Inv (gcx CX P w K mg base N F f A outer s H E) [] (startF N vs ws) H { s with heap := h₁, toks := tk } := by
  have hpl : ps.length + fr.length ≤ N.length := by
    have q := congrArg List.length S.pre
    rw [List.length_take, List.length_append] at q
    omega
  have noA : ∀ b : Addr, b ∉ (gcx CX P w K mg base N F f A outer s H E).ex := fun b z => absurd (show b ∈ ([] : List Addr) from z) (by simp)
  have cellK : ∀ {c : Addr} {v : Option Value}, s.heap.IsCell c v → h₁.IsCell c v := fun {c v} ⟨o, ho, hd⟩ => ⟨o, kp _ _ ho, hd⟩
  have app : cellsFrom (s.heap.objs.size + 1) F.scope.names F.cl = cellsFrom (s.heap.objs.size + 1) F.scope.names [] ++ F.cl := cellsFrom_app _ _ _
  have two : ∀ y c, (cellsFrom (s.heap.objs.size + 1) F.scope.names F.cl).lookup y = some c → (cellsFrom (s.heap.objs.size + 1) F.scope.names []).lookup y = some c ∨ F.cl.lookup y = some c := fun y c h => by
    rw [app, List.lookup_append] at h
    cases e : (cellsFrom (s.heap.objs.size + 1) F.scope.names []).lookup y with
    | some c' => rw [e] at h; exact .inl h
    | none => rw [e] at h; exact .inr h
  have hi : ∀ y c, (cellsFrom (s.heap.objs.size + 1) F.scope.names []).lookup y = some c → s.heap.objs.size + 1 ≤ c := fun y c h => (own.empty y c (mem_of_lookup h)).2
  have lo : ∀ y c, F.cl.lookup y = some c → c < s.heap.objs.size := fun y c h => by
    obtain ⟨_, v, z⟩ := C.all y c h
    exact z.lt
  have frl : ∀ y ∈ fr, (cellsFrom (s.heap.objs.size + 1) F.scope.names F.cl).lookup y = F.cl.lookup y := fun y hy => by
    rw [app, List.lookup_append]
    cases e : (cellsFrom (s.heap.objs.size + 1) F.scope.names []).lookup y with
    | some c' => exact absurd hy (S.sep _ (cellsFrom_own _ _ (mem_of_lookup e)) rfl)
    | none => rfl
  have cl_has : ∀ y, F.scope.names.lookup y = some .cell → ∃ c, (cellsFrom (s.heap.objs.size + 1) F.scope.names []).lookup y = some c := fun y h => cell_has h
  have cl_look : ∀ y c, (cellsFrom (s.heap.objs.size + 1) F.scope.names []).lookup y = some c → (cellsFrom (s.heap.objs.size + 1) F.scope.names F.cl).lookup y = some c := fun y c e => by
    rw [app, List.lookup_append, e]; rfl
  refine ⟨⟨e0.mod, S.kind, rfl, rfl, Nat.le_refl _, fun y z c h1 h2 => ?_, fun y hy => ?_, fun y c z h => ?_, fun _ => hd, Around.frames_deeper e0.frames, .inr ⟨rfl, rfl⟩, fun b z => absurd z (noA b), e0.bs, e0.bsz, fun b _ _ => noA b,
      fun b z => absurd z (noA b), e0.funs, e0.frf⟩,
    rfl, e0.bare, Un.kept kp, ⟨_, hns, fun i y v e1 e2 e3 => ?_⟩, fun y c e => ?_, e0.hok.fresh (Nat.le_refl _), fun y c e => ?_, fun q hq => absurd (show q ∈ ([] : List (Addr × Obj)) ++ [] from hq) (by simp), e0.hok.kept kp, ?_⟩
  · rcases two y c h1 with a | a <;> rcases two z c h2 with b | b
    · exact name_of_addr own.apart (mem_of_lookup a) (mem_of_lookup b)
    · exact absurd (hi y c a) (Nat.not_le.mpr (Nat.lt_succ_of_lt (lo z c b)))
    · exact absurd (hi z c b) (Nat.not_le.mpr (Nat.lt_succ_of_lt (lo y c a)))
    · exact C.inj y z c a b
  · have hy : F.scope.names.lookup y = some .cell ∨ F.scope.names.lookup y = some .free := hy
    rcases hy with hy | hy
    · obtain ⟨c, hc⟩ := cl_has y hy
      exact ⟨c, cl_look y c hc⟩
    · have hm := S.free _ (PySem.mem_of_lookup hy) rfl
      obtain ⟨i, hi⟩ := List.mem_iff_getElem?.mp hm
      obtain ⟨c, hc, _⟩ := C.has i y hi
      exact ⟨c, (frl y hm).trans hc⟩
  · have z : F.scope.names.lookup y = some .cell := of_decide_eq_true z
    obtain ⟨c', hc⟩ := cl_has y z
    have h : (cellsFrom (s.heap.objs.size + 1) F.scope.names F.cl).lookup y = some c := h
    rw [cl_look y c' hc] at h
    cases h
    exact Nat.le_trans (Nat.le_succ _) (hi y _ hc)
  · have e1 : N[i]? = some y := e1
    have clen := C.len
    unfold startF at e2
    by_cases h1 : i < ps.length
    · have hq : (ps ++ fr)[i]? = some y := by
        rw [← S.pre, List.getElem?_take_of_lt (by omega)]
        exact e1
      rw [List.getElem?_append_left h1] at hq
      rw [List.getElem?_append_left (by rw [List.length_map]; omega), List.getElem?_map] at e2
      have ha : vs[i]? = some v := by
        cases e : vs[i]? with
        | none => rw [e] at e2; cases e2
        | some a => rw [e] at e2; cases e2; rfl
      obtain ⟨u, hu, rv⟩ := r.get ha
      have ndP : ps.Nodup := by
        have q := S.nd.sublist (List.take_sublist (ps.length + fr.length) N)
        rw [S.pre] at q
        exact (List.nodup_append.mp q).1
      exact ⟨u, rv, .inl ⟨S.par y (List.mem_of_getElem? hq), zip_look ndP hq hu⟩⟩
    · rw [List.getElem?_append_right (by rw [List.length_map]; omega), List.length_map] at e2
      by_cases h2 : i < ps.length + fr.length
      · have hq : (ps ++ fr)[i]? = some y := by
          rw [← S.pre, List.getElem?_take_of_lt (by omega)]
          exact e1
        rw [List.getElem?_append_right (by omega)] at hq
        rw [List.getElem?_append_left (by omega), hl] at e2
        obtain ⟨c, hc, hv⟩ := C.has (i - ps.length) y hq
        obtain ⟨u, ru, hu⟩ := hv v e2
        exact ⟨u, ru, .inr ⟨.inr (S.frk y (List.mem_of_getElem? hq)), c, (frl y (List.mem_of_getElem? hq)).trans hc, cellK hu⟩⟩
      · rw [List.getElem?_append_right (by omega), List.getElem?_replicate] at e2
        split at e2 <;> cases e2
  · rcases two y c e with a | a
    · exact ⟨none, (own.empty y c (mem_of_lookup a)).1⟩
    · obtain ⟨v, z⟩ := (C.all y c a).2
      exact ⟨v, cellK z⟩
  · rcases two y c e with a | a
    · exact e0.hok.fresh (Nat.le_trans (Nat.le_succ _) (hi y c a))
    · exact (C.all y c a).1
  · have clen := C.len
    unfold startF
    show _ = N.length
    rw [List.length_append, List.length_append, List.length_map, List.length_replicate]
    omega
end
section
variable {CX : CXT} {P : Program} {w : World} {K : PySem.W.Frag} {mg : Str → Option Value} {base : Heap} {N ps fr : List Str} {F : NF} {f : Addr} {k j : Nat} {sp sp' : List (Option V) → Sp}
theorem nokG_of (S : CScope N ps fr F.scope) (hb : ∀ (doc pm ctv : Value) (us : List Value), us.length = ps.length → bindArgs (F.fd doc pm ctv) ⟨us, []⟩ = pure (ps.zip us)) (len : ∀ ws vs H Q E, sp ws vs H Q E → vs.length = ps.length)
    (hbody : ∀ (A : Around) (outer : List Env) (s : Shared) (H : Hp) (vs : List V) (ws : List (Option V)) (Q : VK) (E : XK), Room k (A.deeper (envG F f s.heap.objs.size)) → ws.length = fr.length → sp ws vs H Q E →
      ∃ t, PSs (gcx CX P w K mg base N F f A outer s H E) F.body t ∧ t { nx := fun _ H' => Q .non H', rt := Q } (startF N vs ws) H) :
    NOk P w K mg base CX (k + 1) f F ps fr sp := by
  refine ⟨len, fun A outer s H us vs ws Q E hr e0 hf hc C r hsp => ?_⟩
  have hl := len _ _ _ _ _ hsp
  have lim : s.heap.NoLimit := e0.mod.nolimit.keeps fun b o e => (e0.bs b o e).1
  obtain ⟨od, sl, doc, pm, ctv, ho⟩ := fnO_at e0.hok hf
  refine codeAny_call_function hr.depth ho rfl S.co S.gen rfl (codeO_at e0.hok hc) ?_
  rw [hb doc pm ctv us (by rw [← r.length]; exact hl)]
  refine wpAny_pure (wpAny_newFunctionEnvG (fun ⟨n, _⟩ hy => S.par n (List.of_mem_zip hy).1) (fun h₁ hns hsb => ?_) S.kind)
  have ok := cellsFrom_ok F.scope.names (s.heap.push { cls := .type "frame", data := .dict #[] }) (s.heap.objs.size + 1) [] ⟨fun _ _ hm => (nomatch hm), List.Pairwise.nil⟩ (by rw [Heap.size_push]; exact Nat.le_refl _)
  rw [Heap.size_push] at ok
  have kp : ∀ b o, s.heap.get? b = some o → h₁.get? b = some o := fun b o e => hsb.extBut b o (Nat.ne_of_lt (Heap.lt_size e)) (pushCells_keeps _ _ b o (Heap.get?_push_of_some _ e))
  have own : CellsOk h₁ (s.heap.objs.size + 1) (cellsFrom (s.heap.objs.size + 1) F.scope.names []) := ⟨fun n c hm => ⟨(ok.empty n c hm).1.sameBut hsb (fun e => absurd (ok.empty n c hm).2 (by rw [e]; exact Nat.not_succ_le_self _)), (ok.empty n c hm).2⟩, ok.apart⟩
  refine ⟨lim.keeps kp, ?_⟩
  show codeAny _ _ (.func F.body (envG F f s.heap.objs.size)) _ _
  refine codeAny_func ?_
  obtain ⟨t, ht, hq⟩ := hbody A outer s H vs ws Q E (hr.deeper _) C.len hsp
  have I : Inv (gcx CX P w K mg base N F f A outer s H E) [] (startF N vs ws) H { s with heap := h₁, toks := s.toks + (ps.zip us).length } := inv_startG S hr.hd e0 hl r C hns kp own
  refine wpAny_mono (ht.run [] _ (startF N vs ws) H _ I hq) (fun fl s' hs => ?_) fun e s' hs => hs
  have fin : ∀ {σ' : L2.St} {H' : Hp} {v : V} {u : Value}, Inv (gcx CX P w K mg base N F f A outer s H E) [] σ' H' s' → L2.RelV v u → Q v H' → CE outer P w H s Q u s' :=
    fun {σ' H' v u} J rv q => ⟨v, H', J.os, J.bare, J.base, J.hok, rv, q⟩
  cases fl with
  | ret u =>
    obtain ⟨v, σ', H', J, rv, q⟩ := hs
    exact fin J rv q
  | next =>
    obtain ⟨σ', H', J, q⟩ := hs
    exact fin (v := V.non) (u := Value.none) J rfl q
  | brk =>
    obtain ⟨_, _, _, q⟩ := hs
    exact False.elim q
  | cont =>
    obtain ⟨_, _, _, q⟩ := hs
    exact False.elim q
end

/-! ### over data -/
/-- the names' values at the entry, as data -/
def startC (N : List Str) (ds cs : List D) : Sl := ds.map some ++ (cs.map some ++ List.replicate (N.length - ds.length - cs.length) none)
theorem sOk_app {K : PySem.W.Frag} {H : Hp} : ∀ {σ σ' : L2.St} {δ δ' : Sl}, SOk K H σ δ → SOk K H σ' δ' → SOk K H (σ ++ σ') (δ ++ δ')
  | _, _, _, _, .nil, h => h
  | _, _, _, _, .no t, h => .no (sOk_app t h)
  | _, _, _, _, .is r t, h => .is r (sOk_app t h)
theorem sOk_map {K : PySem.W.Frag} {H : Hp} : ∀ {ds : List D} {vs : List V}, RepL K H ds vs → SOk K H (vs.map some) (ds.map some)
  | _, _, .nil => .nil
  | _, _, .cons r t => .is r (sOk_map t)
theorem sOk_none {K : PySem.W.Frag} {H : Hp} : ∀ n : Nat, SOk K H (List.replicate n none) (List.replicate n none)
  | 0 => .nil
  | n + 1 => .no (sOk_none n)
theorem sOk_startC {K : PySem.W.Frag} {H : Hp} {N : List Str} {ds cs : List D} {vs us : List V} (r : RepL K H ds vs) (c : RepL K H cs us) : SOk K H (startF N vs (us.map some)) (startC N ds cs) := by
  unfold startF startC
  rw [List.length_map, ← r.length, ← c.length]
  exact sOk_app (sOk_map r) (sOk_app (sOk_map c) (sOk_none _))
/-- the promise of a def within: of what its captured names hold, then of its arguments -/
abbrev DSc := List D → DSp
def spC (K : PySem.W.Frag) (S : DSc) : List (Option V) → Sp := fun ws vs H Q _ => ∃ us cs ds m Kd, ws = us.map some ∧ RepL K H cs us ∧ RepL K H ds vs ∧ MOk K H m ∧ S cs ds m Kd ∧ ∀ v H' d m', Keep H H' → MOk K H' m' → Rep K H' d v → Kd d m' → Q v H'
section
variable {P : Program} {w : World} {K : PySem.W.Frag} {mg : Str → Option Value} {base : Heap} {N ps fr : List Str} {F : NF} {f : Addr} {k : Nat} {S : DSc}
theorem nok_d (sc : CScope N ps fr F.scope) (hb : ∀ (doc pm ctv : Value) (us : List Value), us.length = ps.length → bindArgs (F.fd doc pm ctv) ⟨us, []⟩ = pure (ps.zip us)) (len : ∀ cs ds m Kd, S cs ds m Kd → ds.length = ps.length)
    (hbody : ∀ (A : Around) (outer : List Env) (s : Shared) (H : Hp) (E : XK), Room k (A.deeper (envG F f s.heap.objs.size)) →
      ∃ T : TDS, QSs (gcx CX0 P w K mg base N F f A outer s H E).nox F.body T ∧ ∀ cs ds m Kd, cs.length = fr.length → S cs ds m Kd → T (endD Kd) (startC N ds cs) m) : NOk P w K mg base CX0 (k + 1) f F ps fr (spC K S) := by
  refine nokG_of sc hb (fun ws vs H Q E ⟨us, cs, ds, m, Kd, _, _, r, _, h, _⟩ => by rw [← r.length]; exact len cs ds m Kd h) fun A outer s H vs ws Q E hr hl ⟨us, cs, ds, m, Kd, e, rc, r, g, h, q⟩ => ?_
  subst e
  obtain ⟨T, hT, hq⟩ := hbody A outer s H E hr
  refine ⟨_, hT.nox, startC N ds cs, m, endD Kd, ⟨g, sOk_startC r rc⟩, hq cs ds m Kd (by rw [rc.length, ← hl, List.length_map]) h, ⟨fun σ' H' δ' m' k g' ⟨m0, s0, h0⟩ => ?_, fun v H' d m' k g' r' ⟨m0, s0, h0⟩ => ?_, fun _ _ _ _ _ _ z => z, fun _ _ _ _ _ _ z => z⟩⟩
  · exact q .non H' .non m0 k (g'.mem.sub s0) .non h0
  · exact q v H' d m0 k (g'.sub s0) r' h0
end
/-- f(..), f a parameter that holds the function F, whose captured names hold us -/
def tLo (i : Nat) (f : Addr) (F : NF) (us : List V) (S : DSc) (t : TDA) : TD := fun δ m Kd => ∃ cs, δ[i]? = some (some (.clo f F us cs)) ∧ t δ m fun ds m1 => S cs ds m1 Kd
section
variable {Y : Cx} {F : NF} {f : Addr} {ps fr : List Str} {us : List V} {S : DSc} {i k : Nat} {x : Str} {t : TDA} {e : Expr} {es : List Expr} {p pos : Pos}
theorem q_lo (Fn : NOk Y.prog Y.w Y.K Y.mg Y.base CX0 k f F ps fr (spC Y.K S)) (hr : Room k Y.A) (C : CellsAt F.cl fr (us.map some) Y.s_0.heap Y.H_0) (nf : ∀ y c, F.cl.lookup y = some c → c ∉ Y.fs) (hex : ∀ y c, F.cl.lookup y = some c → c ∉ Y.ex)
    (hN : Y.N[i]? = some x) (hv : Vis Y.env.scope x) (ha : QA Y (e :: es) t)
    (hd : (x == ("__debug__" : Str)) = false := by decide) (hcd : (x == ("__classdict__" : Str)) = false := by decide)
    (he : starEach (e :: es) Y.env = (false, eval e Y.env) :: starEach es Y.env := by rfl) (hpl : (backTo pos (starEach es Y.env)).any (·.1) = false := by rfl) :
    QE Y (.Call (.Name x p) (e :: es) [] pos) (tLo i f F us S t) := by
  refine ⟨fun pins s σ H Q I ⟨δ, m, Kd, g, ⟨cs, hs, ht⟩, q⟩ => ?_⟩
  obtain ⟨v0, ev, r0⟩ := g.sl.get hs
  cases r0 with
  | clo hf0 hc0 rc0 =>
  refine wpAny_Call_Name_kw (thn ((pe_var (pos := p) hN hv hd hcd).run pins s σ H (fun v H1 => v = .ref f ∧ H1 = H) I ⟨.ref f, ev, rfl, rfl⟩) fun u s1 ⟨v, H1, I1, r1, q1⟩ => ?_)
  obtain ⟨ev, eH⟩ := q1
  subst ev
  rw [eH] at I1
  obtain rfl : u = Value.ref f := r1
  refine PySem.W.callWith_F (first := []) (fnAt_of I1 hf0) (thn (ha.run pos pins s1 σ H (fun vs H1 => H1 f = some (FnO f F) ∧ H1 F.c = some (CodeO F.c F.qual) ∧ spC Y.K S (us.map some) vs H1 Q E0) I1 ⟨δ, m, _, g, ht, fun vs H2 ds m2 k2 g2 r2 h2 => ?_⟩) fun us s2 ⟨vs, H2, I2, r, h1, h2, q⟩ => ⟨fnAt_of I2 h1, ?_⟩) he hpl
  · exact ⟨k2 _ _ hf0 trivial, k2 _ _ hc0 trivial, us, cs, ds, m2, Kd, rfl, rc0.keep k2, r2, g2.mem, h2, fun v H3 d m3 k3 g3 r3 h3 => q v H3 d m3 (k2.trans k3) (g2.next k3 g3) r3 h3⟩
  · show wpAny _ _ (call (.ref f) us) _ _ _
    refine wpAny_call (codeAny_mono (Fn.run Y.A Y.stack s2 H2 us vs _ Q E0 hr I2.env0 h1 h2 (C.later nf hex I2) r q) fun r s' hq => ?_)
    cases r with
    | error e => exact hq.elim
    | ok fl =>
      cases fl with
      | ret u => exact I2.after hq
      | next => exact False.elim hq
      | brk => exact False.elim hq
      | cont => exact False.elim hq
end
end MW

end
section
set_option Elab.async false
set_option linter.all false
set_option maxRecDepth 100000
/-! MwGb: def f(..): ..; return g(e, f): the def g is walked from the very state where it is called. -/
namespace MW
open PySem PySem.Spec PyProof.Rows L2 LamX NdefX
section
variable {X : Cx}
theorem nofs_of {cl : List (Str × Addr)} {fr : List Str} {js : List Nat} {pins : List (Addr × Obj)} {σ : L2.St} {H : Hp} {s : Shared} (I : Inv X pins σ H s) (cp : Caps X cl fr js) (hfn : ∀ y, X.fn y = true) : ∀ y c, cl.lookup y = some c → c ∉ frs X.stack := fun y c e z => by
  have e1 := cp.sub y c e
  rcases List.mem_cons.mp (I.stkSub _ z) with q | q
  · exact I.cne y c e1 q
  · obtain ⟨_, o, ho, _⟩ := I.ok.funs.mem q
    exact absurd (Nat.lt_of_lt_of_le (Heap.lt_size ho) (I.ok.cab y c (hfn y) e1)) (Nat.lt_irrefl _)
/-- g(e, f), walked from here: ws is what the captured names hold -/
def tGbR (js : List Nat) (R : List (Option V) → List V → Hp → VK → Prop) (ta : TA) : TE := fun σ H Q => ta σ H fun vs H1 => R (js.map (slotAt σ)) vs H1 Q
theorem pe_gb {cl : List (Str × Addr)} {fr : List Str} {js : List Nat} {R : List (Option V) → List V → Hp → VK → Prop} {x : Str} {stg : Stmt} {g : Addr} {fdg : FuncData} {Ng psg : List Str} {k : Nat} {e : Expr} {es : List Expr} {ta : TA} {p pos : Pos}
    (Fg : Fun X.K x x stg g fdg) (hb : Binds X.K fdg psg []) (Sg : FnScope Ng psg (defScope stg)) (hg : Gl X x) (hm : X.mg x = some (.ref g)) (cp : X.Ok → Caps X cl fr js) (hfn : ∀ y, X.fn y = true) (hr : Room (k + 1) X.A) (ha : PA X (e :: es) ta)
    (hG : ∀ (cdv : Value) (s : Shared) (H : Hp) (ws : List (Option V)) (vs : List V) (Q : VK), R ws vs H Q → CellsAt cl fr ws s.heap H → (∀ y c, cl.lookup y = some c → c ∉ frs X.stack) → Room k (X.A.deeper (envOfC x (defScope stg) s.heap.objs.size g cdv)) →
      ∃ t, PSs (cxOf CX0 X.prog X.w X.K X.mg X.base Ng x (defScope stg) g cdv X.A X.stack s H E0) (defBody stg) t ∧ t { nx := fun _ H' => Q .non H', rt := Q } (L2.start Ng vs) H)
    (hlen : ∀ ws vs H Q, R ws vs H Q → vs.length = psg.length)
    (hd : (x == ("__debug__" : Str)) = false := by decide) (he : starEach (e :: es) X.env = (false, eval e X.env) :: starEach es X.env := by rfl) (hpl : (backTo pos (starEach es X.env)).any (·.1) = false := by rfl) :
    PE X (.Call (.Name x p) (e :: es) [] pos) (tGbR js R ta) := by
  obtain ⟨oc, od, kV, doc, pm, an, cdv, ct, osl, rfl, lk, hcd⟩ := Fg.ex
  refine ⟨fun pins s σ H Q I h => ?_⟩
  refine wpAny_Call_Name_kw (ld_glob I hg hm ?_ hd)
  refine PySem.W.callWith_K (h₀ := X.base) I.ok.mod.kin Fg.kp ?_ he hpl
  refine thn (ha.run pos pins s σ H _ I h) fun us s1 ⟨vs, H1, I1, r, q⟩ => ⟨I1.kIn, ?_⟩
  have hl := hlen _ _ _ _ q
  have C := cells_of I1 (cp I1.ok)
  have nf := nofs_of I1 (cp I1.ok) hfn
  show wpAny _ _ (call (.ref g) us) _ _ _
  have hl2 : us.length = psg.length := by rw [← r.length]; exact hl
  have bd := hb s1 us I1.kIn (by rw [List.append_nil]; exact hl2)
  rw [List.append_nil] at bd
  refine wpAny_call (codeAny_mono (run_ofS (N := Ng) (ps := psg) (us := us) (vs := vs) (Q := Q) (E := E0) lk hcd Sg hr I1.env0 bd r hl fun hr' => hG cdv s1 H1 _ vs Q q C nf hr') fun r s2 hq => ?_)
  cases r with
  | error e => exact hq.elim
  | ok fl =>
    cases fl with
    | ret u => exact I1.after hq
    | next => exact False.elim hq
    | brk => exact False.elim hq
    | cont => exact False.elim hq

/-- def f(..): ..; return g(e, f) -/
def tGB (P : Addr) (nm : Nat → Nat → Str) (i : Nat) (js : List Nat) (mk : Addr → NF) (GB : Addr → NF → List V → DSp) (ta : TDA) : TDS := fun DD δ m => m P = some (.tab nm) ∧ (∀ b nm', m b = some (.tab nm') → b = P) ∧ i < δ.length ∧
  ∃ cs, js.map (fun j => δ[j]?) = cs.map (fun d => some (some d)) ∧ ∀ f c' us, ta (δ.set i (some (.clo f (mk c') us cs))) m fun ds m1 => GB f (mk c') us ds m1 DD.rt
theorem caught {K : PySem.W.Frag} {H : Hp} {σ : L2.St} {δ : Sl} (s : SOk K H σ δ) : ∀ {js : List Nat} {cs : List D}, js.map (fun j => δ[j]?) = cs.map (fun d => some (some d)) → ∃ us, js.map (slotAt σ) = us.map some ∧ RepL K H cs us
  | [], [], _ => ⟨[], rfl, .nil⟩
  | [], _ :: _, h => by cases h
  | _ :: _, [], h => by cases h
  | j :: js, c :: cs, h => by
    rw [List.map_cons, List.map_cons, List.cons.injEq] at h
    obtain ⟨us, e, r⟩ := caught s h.2
    obtain ⟨v, hv, rv⟩ := s.get h.1
    exact ⟨v :: us, by rw [List.map_cons, List.map_cons, e, slotAt_of hv], .cons rv r⟩
theorem slotAt_set {σ : L2.St} {i : Nat} {o : Option V} : ∀ {js : List Nat}, i ∉ js → js.map (slotAt (σ.set i o)) = js.map (slotAt σ) := fun {js} h => by
  refine List.map_congr_left fun j hj => ?_
  unfold NdefX.slotAt
  rw [List.getElem?_set_ne (fun z => h (by rw [z]; exact hj))]
theorem qss_gb {st1 : Stmt} {nm : Nat → Nat → Str} {c P : Addr} {fname : Str} {dpos : Pos} {i ix ka k kg : Nat} {js : List Nat} {psf fr Ng psg : List Str} {S : DSc} {GB : Addr → NF → List V → DSp} {x y : Str} {stg : Stmt} {g : Addr} {fdg : FuncData} {e : Expr} {es : List Expr} {ta : TDA} {p pos rpos : Pos}
    (hst : st1 = .FunctionDef fname (C8.fnArgs st1) (C8.fnBody st1) [] none [] (C8.fnScope st1) none fname dpos) (TB : TabB X.base X.mg c P) (hcode : X.env.code = .ref c) (hn : nm dpos.line dpos.col = X.env.qual ++ fname)
    (nB : ndefB X.env.scope (C8.fnScope st1) fr = true) (hd0 : (C8.fnArgs st1).defaults = []) (hk0 : (C8.fnArgs st1).kw_defaults = []) (hann : annTrees (C8.fnArgs st1) none X.env = []) (hN : X.N.Nodup) (hi : X.N[i]? = some fname) (hx : Loc X.env.scope fname) (hf : X.fn fname = true ∨ X.env.scope.names.lookup fname = some .local)
    (hij : i ∉ js) (hjs : js.map (fun j => X.N[j]?) = fr.map some) (hfn : ∀ y, X.fn y = true)
    (Fn : ∀ f c', NOk X.prog X.w X.K X.mg X.base CX0 ka f (NF.of st1 fname (X.env.qual ++ fname) (cloFrom X.env.cells (C8.fnScope st1).names []) c') psf fr (spC X.K S)) (hka : ka ≤ k)
    (Fg : Fun X.K x x stg g fdg) (hb : Binds X.K fdg psg []) (Sg : FnScope Ng psg (defScope stg)) (hg : Gl X x) (hm : X.mg x = some (.ref g)) (hr : Room (k + 1) X.A) (ha : QA X (e :: es) ta) (hNy : Ng[ix]? = some y) (hvy : Vis (defScope stg) y)
    (hGB : ∀ (f c' : Addr) (us : List V) (cdv : Value) (s : Shared) (H : Hp), Room k (X.A.deeper (envOfC x (defScope stg) s.heap.objs.size g cdv)) →
      (∀ {e1 : Expr} {t1 : TDA} {p1 pos1 : Pos}, QA (cxOf CX0 X.prog X.w X.K X.mg X.base Ng x (defScope stg) g cdv X.A X.stack s H E0).nox [e1] t1 → starEach [e1] (cxOf CX0 X.prog X.w X.K X.mg X.base Ng x (defScope stg) g cdv X.A X.stack s H E0).env = [(false, eval e1 (cxOf CX0 X.prog X.w X.K X.mg X.base Ng x (defScope stg) g cdv X.A X.stack s H E0).env)] →
        QE (cxOf CX0 X.prog X.w X.K X.mg X.base Ng x (defScope stg) g cdv X.A X.stack s H E0).nox (.Call (.Name y p1) [e1] [] pos1) (tLo ix f (NF.of st1 fname (X.env.qual ++ fname) (cloFrom X.env.cells (C8.fnScope st1).names []) c') us S t1)) →
      ∃ T : TDS, QSs (cxOf CX0 X.prog X.w X.K X.mg X.base Ng x (defScope stg) g cdv X.A X.stack s H E0).nox (defBody stg) T ∧ ∀ ds m Kd, GB f (NF.of st1 fname (X.env.qual ++ fname) (cloFrom X.env.cells (C8.fnScope st1).names []) c') us ds m Kd → T (endD Kd) (startD Ng ds) m)
    (hlen : ∀ f F us ds m Kd, GB f F us ds m Kd → ds.length = psg.length) (hdy : (y == ("__debug__" : Str)) = false := by decide) (hcy : (y == ("__classdict__" : Str)) = false := by decide)
    (hd : (x == ("__debug__" : Str)) = false := by decide) (he : starEach (e :: es) X.env = (false, eval e X.env) :: starEach es X.env := by rfl) (hpl : (backTo pos (starEach es X.env)).any (·.1) = false := by rfl) :
    QSs X [st1, .Return (some (.Call (.Name x p) (e :: es) [] pos)) rpos] (tGB P nm i js (NF.of st1 fname (X.env.qual ++ fname) (cloFrom X.env.cells (C8.fnScope st1).names [])) GB ta) := by
  have cp : X.Ok → Caps X (cloFrom X.env.cells (C8.fnScope st1).names []) fr js := fun ok => Caps.made ok (ndef_free nB) (ndef_fr nB) hjs
  refine pss_imp (pss_cons (ps_ndefMS (T := [(P, nm)]) hst TB hcode (List.mem_singleton.mpr rfl) hn (fun q hq _ => by rw [List.mem_singleton.mp hq]) (ndef_free nB) hd0 hk0 hann hN hi hx hf)
    (pss_one (ps_ret (pe_gb (cl := cloFrom X.env.cells (C8.fnScope st1).names []) (fr := fr) (js := js)
      (R := fun ws vs H Q => ∃ f c' us ds m Kd, ws = us.map some ∧ RepL X.K H ds vs ∧ MOk X.K H m ∧ GB f (NF.of st1 fname (X.env.qual ++ fname) (cloFrom X.env.cells (C8.fnScope st1).names []) c') us ds m Kd ∧ ∀ v H' d m', Keep H H' → MOk X.K H' m' → Rep X.K H' d v → Kd d m' → Q v H')
      Fg hb Sg hg hm cp hfn hr ha (fun cdv s H ws vs Q ⟨f, c', us, ds, m, Kd, ew, r, gm, h, q⟩ C nf hr' => ?_) (fun ws vs H Q ⟨f, c', us, ds, m, Kd, ew, r, gm, h, q⟩ => by rw [← r.length]; exact hlen _ _ _ _ _ _ h) hd he hpl)))) ?_
  · subst ew
    obtain ⟨T, hT, hq⟩ := hGB f c' us cdv s H hr' fun {e1 t1 p1 pos1} ha1 he1 =>
      q_lo (Y := (cxOf CX0 X.prog X.w X.K X.mg X.base Ng x (defScope stg) g cdv X.A X.stack s H E0).nox) (Fn f c') (hr'.mono hka) C nf (fun _ _ _ z => absurd (show _ ∈ ([] : List Addr) from z) (by simp)) hNy hvy ha1 hdy hcy he1 rfl
    refine ⟨_, hT.nox, startD Ng ds, m, endD Kd, ⟨gm, sOk_start r⟩, hq ds m Kd h, ⟨fun σ' H' δ' m' k g' ⟨m0, s0, h0⟩ => ?_, fun v H' d m' k g' r' ⟨m0, s0, h0⟩ => ?_, fun _ _ _ _ _ _ z => z, fun _ _ _ _ _ _ z => z⟩⟩
    · exact q .non H' .non m0 k (g'.mem.sub s0) .non h0
    · exact q v H' d m0 k (g'.sub s0) r' h0
  · intro D σ H ⟨δ, m, DD, g, ⟨hP, hone, hil, cs, hcs, h⟩, E⟩
    refine ⟨fun q hq => ?_, fun f c' H1 eN nn T1 f0 f1 c1 => ?_⟩
    · rw [List.mem_singleton.mp hq]
      exact g.mem P _ hP
    · have k1 : Keep H H1 := fun b o e st => eN b o e fun ps z => by rw [z] at st; exact st
      have m1 : MOk X.K H1 m := fun b d hb => by
        by_cases ht : ∃ nm', d = .tab nm'
        · obtain ⟨nm', rfl⟩ := ht
          have eb := hone b nm' hb
          subst eb
          rw [hP] at hb
          cases hb
          exact T1 (b, nm) (List.mem_singleton.mpr rfl)
        · obtain ⟨o, ho, ns, mu⟩ := (g.mem b d hb).at_
          have mu := mu fun nm' z => ht ⟨nm', z⟩
          refine (g.mem b d hb).keep k1 ((eN b o ho fun ps z => ?_).trans ho.symm)
          rw [z] at mu
          exact mu
      obtain ⟨us, hus, rus⟩ := caught g.sl hcs
      have gc : Good X.K H1 m (σ.set i (some (.ref f))) (δ.set i (some (.clo f (NF.of st1 fname (X.env.qual ++ fname) (cloFrom X.env.cells (C8.fnScope st1).names []) c') us cs))) := ⟨m1, (g.sl.keep k1).set (.clo f1 c1 (rus.keep k1)) i⟩
      refine ⟨_, m, _, gc, h f c' us, fun vs H2 ds m2 k2 g2 r2 h2 => ⟨f, c', us, ds, m2, DD.rt, ?_, r2, g2.mem, h2, fun v H3 d m3 k3 g3 r3 h3 => E.rt v H3 d m3 ((k1.trans k2).trans k3) g3 r3 h3⟩⟩
      rw [slotAt_set hij, hus]
end
end MW

end
section
set_option Elab.async false
set_option linter.all false
set_option maxRecDepth 100000
/-! MwRest: sorted lists of tuples of ints, a tuple repeated, powers of great numbers. -/
namespace MW
open PySem PySem.Spec PyProof.Rows L2
section
variable {X : Cx}
/-! ### sorted(xs): the same items in some order -/
def rSrtD (K : PySem.W.Frag) : List V → Hp → VK → Prop := fun vs H Q => ∃ (a : Addr) (bs : List (V × List Int)), vs = [V.ref a] ∧ SqL K H a (bs.map (·.1)) ∧ (∀ b ∈ bs, b.2 ≠ [] ∧ TupI K H b.1 b.2) ∧
  ∀ (bs' : List (V × List Int)) (p : Addr), bs'.Perm bs → H p = none → Q (.ref p) (upd H p (.lst (bs'.map (·.1))))
theorem each_of {bs : List (V × List Int)} : ∀ {us : List Value}, Vals (bs.map (·.1)) us → PySem.W.EachIs (fun (v : Value) (b : V × List Int) => RelV b.1 v) us bs := by
  induction bs with
  | nil => intro us r; cases r; exact .nil
  | cons b bs ih => intro us r; cases r with | cons r t => exact .cons r (ih t)
theorem each_to {bs : List (V × List Int)} : ∀ {us : List Value}, PySem.W.EachIs (fun (v : Value) (b : V × List Int) => RelV b.1 v) us bs → Vals (bs.map (·.1)) us := by
  induction bs with
  | nil => intro us r; cases r; exact .nil
  | cons b bs ih => intro us r; cases r with | cons r t => exact .cons r (ih t)
theorem reads_ints {h : Heap} : ∀ {vs : List Value} {ns : List Int}, IntsAre vs ns → ReadsAll h vs (ns.map .int) []
  | _, _, .nil => .nil
  | _, _, .cons n t r => .cons (as := []) (.int n t) (reads_ints r)
theorem cr_srtD (hu : X.A.units + 65 < cLine) : CallR X (.builtin "sorted") (rSrtD X.K) := by
  intro pins s σ H vs us Q I r h
  obtain ⟨a, bs, rfl, hs, hx, q⟩ := h
  obtain ⟨its, rv, hl, hz⟩ := I.list hs
  rw [Vals.ref1 r]
  have er : ∀ {bs : List (V × List Int)} {its : List Value}, (∀ b ∈ bs, b.2 ≠ [] ∧ TupI X.K H b.1 b.2) → Vals (bs.map (·.1)) its →
      PySem.W.EachIs (fun (v : Value) (b : V × List Int) => ∃ as, Reads s.heap v (.tuple (b.2.map .int)) as) its bs := by
    intro bs
    induction bs with
    | nil => intro its _ r; cases r; exact .nil
    | cons b bs ih =>
      intro its hx r
      cases r with
      | cons r t =>
        refine .cons ?_ (ih (fun c hc => hx c (List.mem_cons_of_mem _ hc)) t)
        obtain ⟨_, tt, e, ht⟩ := hx b (List.mem_cons_self ..)
        obtain ⟨t', xs, e2, ⟨o, ho, hc, n, hd⟩, hi⟩ := tupI_raw I ht
        have r : RelV b.1 _ := r
        rw [e] at r
        cases r
        cases e2
        exact ⟨_, .tuple ho hc hd (reads_ints hi)⟩
  refine PySem.W.sorted_data (vs := its) (bs := bs) (enc := fun b : V × List Int => .tuple (b.2.map .int)) (R := fun v b => RelV b.1 v) hl.isList (each_of rv) (er hx rv)
    (PySem.W.AllAlike.of fun b b' => by simp [PySem.W.alike, PySem.W.alike_ints]) (.inl fun d hd => ?_) (by have := rv.length; rw [List.length_map] at this; rw [this]; rw [List.length_map] at hz; omega) (fun b hb => ?_) fun out ho eo => ?_
  · obtain ⟨b, hb, rfl⟩ := List.mem_map.mp hd
    obtain ⟨hne, _⟩ := hx b hb
    cases e : b.2 with
    | nil => exact absurd e hne
    | cons x r => exact ⟨.int x, r.map .int, rfl⟩
  · have hd : (PyData.tuple (b.2.map .int)).depth = 1 := by simp [PyData.depth, PySem.W.depth_ints]
    rw [hd]
    omega
  · obtain ⟨ep, he'⟩ := PyProof.Rows.sortedAll_at s.heap its (List.toArray out)
    have rv2 := each_to eo
    have hp := List.mergeSort_perm bs (PySem.W.dataLe false fun b : V × List Int => .tuple (b.2.map .int))
    refine ⟨.ref _, upd H (s.heap.objs.size + 1) (.lst ((bs.mergeSort (PySem.W.dataLe false fun b : V × List Int => .tuple (b.2.map .int))).map (·.1))), I.laid (t' := s.toks) (fun _ _ => PyProof.Rows.sortedAll_old) (Nat.le_succ _) ⟨?_, out, ep, rv2, he'⟩, rfl, q _ _ hp (I.hok.fresh (Nat.le_succ _))⟩
    rw [List.length_map, hp.length_eq]
    rw [List.length_map] at hz
    exact hz
def tI (ns : List Int) : D := .tup (ns.map .int)
def cSrt : DRC := fun ds m Kd => ∃ (d : D) (iss : List (List Int)), ds = [d] ∧ look m d = .lst (iss.map tI) ∧ (∀ ns ∈ iss, ns ≠ []) ∧ ∀ iss' : List (List Int), iss'.Perm iss → Kd (.lst (iss'.map tI)) m
theorem repL_intsI {K : PySem.W.Frag} {H : Hp} : ∀ {ns : List Int} {us : List V}, RepL K H (ns.map .int) us → us = ns.map V.int
  | [], _, r => by cases r; rfl
  | n :: ns, _, r => by
    cases r with
    | cons r t =>
      cases r
      rw [repL_intsI t]
      rfl
theorem tups_of {K : PySem.W.Frag} {H : Hp} : ∀ {iss : List (List Int)} {vs : List V}, RepL K H (iss.map tI) vs → ∃ bs : List (V × List Int), bs.map (·.1) = vs ∧ bs.map (·.2) = iss ∧ ∀ b ∈ bs, TupI K H b.1 b.2 ∧ Rep K H (tI b.2) b.1
  | [], _, r => by cases r; exact ⟨[], rfl, rfl, fun b hb => absurd hb (by simp)⟩
  | ns :: iss, _, r => by
    cases r with
    | cons r t =>
      obtain ⟨bs, e1, e2, h⟩ := tups_of t
      have r0 := r
      obtain ⟨a, us, rfl, ha, ru⟩ := r.tupI
      have eu := repL_intsI ru
      subst eu
      refine ⟨(.ref a, ns) :: bs, by rw [List.map_cons, e1], by rw [List.map_cons, e2], fun b hb => ?_⟩
      rcases List.mem_cons.mp hb with e | hb
      · rw [e]; exact ⟨⟨a, rfl, .of ha⟩, r0⟩
      · exact h b hb
theorem repL_of {K : PySem.W.Frag} {H : Hp} : ∀ {bs : List (V × List Int)}, (∀ b ∈ bs, Rep K H (tI b.2) b.1) → RepL K H ((bs.map (·.2)).map tI) (bs.map (·.1))
  | [], _ => .nil
  | b :: bs, h => .cons (h b (List.mem_cons_self ..)) (repL_of fun c hc => h c (List.mem_cons_of_mem _ hc))
theorem liftSorted {K : PySem.W.Frag} : LiftC K (tFrzC (rSrtD K)) cSrt :=
  fun σ δ H m vs ds Kd Q g r0 ⟨d, iss, e, hd, hn, h⟩ q => by
    subst e
    obtain ⟨v, rfl, r⟩ := repL1 r0
    obtain ⟨a, us, rfl, h1, h2⟩ := look_lst g.mem r hd
    obtain ⟨bs, e1, e2, hb⟩ := tups_of h2
    refine ⟨a, bs, rfl, by rw [e1]; exact h1, fun b hb' => ⟨hn _ (by rw [← e2]; exact List.mem_map_of_mem hb'), (hb b hb').1⟩, fun bs' p hp hp0 => ?_⟩
    refine ⟨p, _, rfl, upd_same, trivial, fun o => ?_⟩
    rw [upd_upd]
    have kp := Keep.fresh (o := .frz o (.lst (bs'.map (·.1)))) hp0
    exact q (.ref p) _ (.lst ((bs'.map (·.2)).map tI)) m kp (g.next kp (g.mem.fresh hp0)) (.lst (.inl ⟨o, upd_same⟩) ((repL_of fun b hb' => (hb b (hp.mem_iff.mp hb')).2).keep kp)) (h _ (by rw [← e2]; exact hp.map _))
theorem cr_sortedA (hu : X.A.units + 65 < cLine) : CallR X (.builtin "sorted") (tFrzC (rSrtD X.K)) := callR_frz (cr_srtD hu)

/-! ### powers -/
def CPowW (i j : Int) : Prop := 0 ≤ j ∧ (Builtin.Int.intBits i : Int) * j ≤ 2 ^ 27
theorem op_powW : OpR X (binaryOp .Pow) (rI CPowW fun i j => .int (i ^ j.toNat)) := opI fun _ _ _ _ _ _ _ hc q => pow_int hc.1 hc.2 q

/-! ### (0,) * n, n at least 1 -/
def rRepA (K : PySem.W.Frag) : R2 := fun x y H Q => ∃ l k xs, x = .ref l ∧ y = .int k ∧ SqT K H l xs ∧ xs ≠ [] ∧ 1 ≤ k ∧ k ≤ 1000 ∧ xs.length ≤ 1000 ∧ (k = 1 → Q (.ref l) H) ∧ (2 ≤ k → ∀ p, H p = none → Q (.ref p) (upd H p (.tup (List.replicate k.toNat xs).flatten)))
theorem tuple_mul1 (l : Addr) (items : Array Value) (n : Nat) (dd : Option Addr) (sl : Array (Option Value)) (u : Tok) :
    Meets (Builtin.«tuple.__mul__» ⟨[.ref l, .int 1 u], []⟩) (fun _ R s => s.heap.get? l = some { cls := .type "tuple", dict := dd, data := .seq items n, slots := sl } ∧ R (.ok (.ret (Value.ref l))) s) :=
  .of_wp fun prog w A R s h => by
    obtain ⟨hp, g, d, tk, os⟩ := s
    obtain ⟨hl, h⟩ := h
    have f1 := AutoSeq1.idx_int
    have c1 : (items.isEmpty || (1 : Int) == 1) = true := by rw [Bool.or_eq_true]; exact .inr rfl
    have c0 : (decide ((1 : Int) < -(2 ^ 63)) || decide ((1 : Int) ≥ 2 ^ 63)) = false := by decide
    wp_walk using wpAny_loadPart' hl
    exact ⟨_, rfl, h⟩
theorem op_rep1 {pins : List (Addr × Obj)} {s : Shared} {σ : L2.St} {H : Hp} {l : Addr} {xs : List V} {v u : Value} {Q : VK} (I : Inv X pins σ H s) (rx : RelV (.ref l) v) (ry : RelV (.int 1) u) (hT : SqT X.K H l xs) (q : Q (.ref l) H) :
    wpAny (model X.prog X.w) X.A (binaryOp .Mult v u) (EP X pins σ Q) X.xe s := by
  cases rx
  obtain ⟨t, rfl⟩ := ry
  obtain ⟨its, r, ⟨⟨cls, dd, data, sl⟩, ho, hc, n, hd⟩, hs⟩ := I.tuple hT
  simp only at hc hd
  subst hc hd
  refine wpAny_binaryOp_repeat_ref (T := "tuple") (U := "int") (by decide) ⟨_, ho, rfl⟩ (fun s' => typeIs_int s' 1 t) noFill_tuple_mul F.fills_int_mul F.slot_int_rmul repeat_tuple F.slot_int_index.lookup
    (call_meets F.slot_int_rmul (typeIs_int s 1 t) F.entry_int_rmul (F.args_int_rmul_2 _ _) (int_rmul_tuple 1 t l its.toArray n dd sl)
      ⟨ho, rfl, ⟨_, ho, rfl⟩, call_meets F.slot_tuple_mul ⟨_, ho, rfl⟩ F.entry_tuple_mul (F.args_tuple_mul_2 _ _) (tuple_mul1 l its.toArray n dd sl t) ⟨ho, ?_⟩⟩)
  exact ⟨.ref l, H, I, rfl, q⟩
theorem op_repA : OpR X (binaryOp .Mult) (rRepA X.K) := by
  intro pins s σ H x y v u Q I rx ry ⟨l, k, xs, e1, e2, hT, hne, h1, h2, hz, q1, q2⟩
  subst e1 e2
  by_cases hk : k = 1
  · subst hk
    exact op_rep1 I rx ry hT (q1 rfl)
  · exact op_repT pins s σ H _ _ v u Q I rx ry ⟨l, k, xs, rfl, rfl, hT, hne, by omega, h2, hz, q2 (by omega)⟩
def dRep : DR2 := fun x y m Kd => ∃ (d : D) (k : Nat), x = .tup [d] ∧ y = .int (k : Nat) ∧ 1 ≤ k ∧ k ≤ 1000 ∧ Kd (.tup (List.replicate k d)) m
theorem flat_one {α : Type} (x : α) : ∀ k : Nat, (List.replicate k [x]).flatten = List.replicate k x
  | 0 => rfl
  | k + 1 => by rw [List.replicate_succ, List.flatten_cons, flat_one x k, List.replicate_succ]; rfl
theorem repL_rep {K : PySem.W.Frag} {H : Hp} {d : D} {v : V} (r : Rep K H d v) : ∀ k : Nat, RepL K H (List.replicate k d) (List.replicate k v)
  | 0 => .nil
  | k + 1 => .cons r (repL_rep r k)
theorem liftRep {K : PySem.W.Frag} : LiftR2 K (rRepA K) dRep := fun σ δ H m x y dx dy Kd Q g rx ry ⟨d, k, e1, e2, h1, h2, h⟩ q => by
  subst e1 e2
  cases ry
  obtain ⟨a, us, rfl, ha, ru⟩ := rx.tupI
  obtain ⟨v, rfl, rv⟩ := repL1 ru
  refine ⟨a, _, [v], rfl, rfl, .of ha, by simp, by omega, by omega, by simp, fun e => ?_, fun _ p hp => ?_⟩
  · have ek : k = 1 := by omega
    subst ek
    exact q (.ref a) H _ m (Keep.refl H) g (.tup ha (.cons rv .nil)) h
  · have kp := Keep.fresh (o := .tup (List.replicate (k : Int).toNat [v]).flatten) hp
    refine q (.ref p) _ (.tup (List.replicate k d)) m kp (g.next kp (g.mem.fresh hp)) (.tup upd_same ?_) h
    have := repL_rep (rv.keep kp) k
    rw [flat_one, Int.toNat_natCast] at this ⊢
    exact this
end
end MW

end
section
set_option Elab.async false
set_option linter.all false
set_option maxRecDepth 100000
/-! MwComp3: [e for a in b for c in d for f in g]. -/
namespace MW
open PySem PySem.Spec PyProof.Rows L2
/-- a clause behind the first, as a step -/
def clStep (e i : Expr) (d : Nat) (acc : Value) (env : Env) (k : Sem Fin) : Sem Fin := do
  let x ← eval i env
  standAt i.pos
  let x ← foldedSetIterable i env x
  let _ ← runOwn (.compStart e d (← holding [x] (pyIter x)) acc env) env
  k
def emStep (elt : Expr) (acc : Value) (env : Env) (k : Sem Fin) : Sem Fin := do
  (do let _ ← call (.builtin "list.append") [acc, ← eval elt env])
  k
def turnOf (e t i : Expr) (d : Nat) (it acc : Value) (env : Env) (body : Sem Fin → Sem Fin) : Sem Fin := do
  standAt i.pos
  match ← pyNext it with
  | none => pure (.done .next)
  | some v =>
    letOwnedTupleGo t it v
    assign t env v
    body (again (.compLoop e d it acc env))
section
variable {elt t0 i0 t1 i1 t2 i2 : Expr} {scope : Scope} {pos : Pos} {it acc : Value} {env : Env}
abbrev lc3 (elt t0 i0 t1 i1 t2 i2 : Expr) (scope : Scope) (pos : Pos) : Expr := .ListComp elt [⟨t0, i0, [], 0⟩, ⟨t1, i1, [], 0⟩, ⟨t2, i2, [], 0⟩] scope pos
theorem turn3_0 : compTurn (lc3 elt t0 i0 t1 i1 t2 i2 scope pos) 0 it acc env = turnOf (lc3 elt t0 i0 t1 i1 t2 i2 scope pos) t0 i0 0 it acc env (clStep (lc3 elt t0 i0 t1 i1 t2 i2 scope pos) i1 1 acc env) := by rfl
theorem turn3_1 : compTurn (lc3 elt t0 i0 t1 i1 t2 i2 scope pos) 1 it acc env = turnOf (lc3 elt t0 i0 t1 i1 t2 i2 scope pos) t1 i1 1 it acc env (clStep (lc3 elt t0 i0 t1 i1 t2 i2 scope pos) i2 2 acc env) := by rfl
theorem turn3_2 : compTurn (lc3 elt t0 i0 t1 i1 t2 i2 scope pos) 2 it acc env = turnOf (lc3 elt t0 i0 t1 i1 t2 i2 scope pos) t2 i2 2 it acc env (emStep elt acc env) := by rfl
end

section
variable {prog : Program} {w : World} {A : Around} {R : Result → Shared → Prop} {s : Shared} {elt t0 i0 t1 i1 t2 i2 t i : Expr} {scope : Scope} {pos : Pos} {it acc : Value} {env : Env} {d : Nat} {body : Sem Fin → Sem Fin}
/-- body does its work, then goes on -/
def StepAt (prog : Program) (w : World) (A : Around) (body : Sem Fin → Sem Fin) (post : Shared → Prop) (s : Shared) : Prop := ∀ (k : Sem Fin) (Q : Fin → Shared → Prop) (E : Value → Shared → Prop), (∀ s', post s' → wpAny (model prog w) A k Q E s') → wpAny (model prog w) A (body k) Q E s
theorem compLoopB (hturn : compTurn (lc3 elt t0 i0 t1 i1 t2 i2 scope pos) d it acc env = turnOf (lc3 elt t0 i0 t1 i1 t2 i2 scope pos) t i d it acc env body) (I : Nat → Shared → Prop)
    (turn : ∀ n s, I n s → wpAny (model prog w) A (pyNext it) (fun r s₁ => match r with
      | none => R (.ok .next) s₁
      | some v => wpAny (model prog w) A (letOwnedTupleGo t it v) (fun _ s₁' => wpAny (model prog w) A (assign t env v) (fun _ s₂ => StepAt prog w A body (fun s₃ => ∃ m, m < n ∧ I m s₃) s₂)
        (notedBy (model prog w) A env fun e s' => R (.error e) s') s₁') (notedBy (model prog w) A env fun e s' => R (.error e) s') s₁) (notedBy (model prog w) A env fun e s' => R (.error e) s') s)
    (n : Nat) (h : I n s) : codeAny (model prog w) A (.compLoop (lc3 elt t0 i0 t1 i1 t2 i2 scope pos) d it acc env) R s := by
  refine codeAny_loop rfl I (fun n s hI => ?_) n h
  show wpAny _ A ((compTurn (lc3 elt t0 i0 t1 i1 t2 i2 scope pos) d it acc env).onRaise (fun x => do noteFrame x env; theTreesLotGoes x)) _ _ s
  refine wpAny_noted ?_
  rw [hturn]
  unfold turnOf
  refine wpAny_bind (wpAny_standAt (wpAny_bind (wpAny_mono (turn n s hI) (fun r s₁ h₁ => ?_) fun _ _ h' => h')))
  cases r with
  | none => exact wpAny_pure h₁
  | some v =>
    refine wpAny_bind (wpAny_mono h₁ (fun _ s₁' h₁' => ?_) fun _ _ h' => h')
    refine wpAny_bind (wpAny_mono h₁' (fun _ s₂ h₂ => ?_) fun _ _ h' => h')
    exact h₂ _ _ _ fun s' h3 => wpAny_pure ⟨rfl, h3⟩
theorem compStart3_1 (h0 : codeAny (model prog w) A (.compLoop (lc3 elt t0 i0 t1 i1 t2 i2 scope pos) 1 it acc env) R s)
    (h : wpAny (model prog w) A (pyIter it) (fun it' s' => codeAny (model prog w) A (.compLoop (lc3 elt t0 i0 t1 i1 t2 i2 scope pos) 1 it' acc env) R s')
      (notedBy (model prog w) A env fun x s' => R (.error x) s') s) :
    codeAny (model prog w) A (.compStart (lc3 elt t0 i0 t1 i1 t2 i2 scope pos) 1 it acc env) R s := by
  refine codeAny_of_tree ?_
  show wpAny _ _ ((compStart (lc3 elt t0 i0 t1 i1 t2 i2 scope pos) 1 it acc env).onRaise (fun x => do noteFrame x env; standAt theWindowsPlace)) _ _ s
  refine wpAny_notedAt ?_
  unfold compStart
  show wpAny _ _ (ask >>= _) _ _ s
  refine wpAny_bind (wpAny_askSetting (wpAny_ite ?_))
  split
  · first
      | exact wpAny_bind (wpAny_pure (wpAny_pure (And.intro rfl h0)))
      | exact wpAny_pure (And.intro rfl h0)
  · first
      | exact wpAny_bind (wpAny_rule (wpAny_bind (wpAny_standAt (wpAny_bind (wpAny_mono h (fun it' s' h' => wpAny_pure (And.intro rfl h')) fun _ _ x => x)))))
      | (refine wpAny_bind (wpAny_rule ?_); show wpAny _ _ (standAt i1.pos >>= _) _ _ s; exact wpAny_bind (wpAny_standAt (wpAny_bind (wpAny_mono h (fun it' s' h' => wpAny_pure (And.intro rfl h')) fun _ _ x => x))))
theorem compStart3_2 (h0 : codeAny (model prog w) A (.compLoop (lc3 elt t0 i0 t1 i1 t2 i2 scope pos) 2 it acc env) R s)
    (h : wpAny (model prog w) A (pyIter it) (fun it' s' => codeAny (model prog w) A (.compLoop (lc3 elt t0 i0 t1 i1 t2 i2 scope pos) 2 it' acc env) R s')
      (notedBy (model prog w) A env fun x s' => R (.error x) s') s) :
    codeAny (model prog w) A (.compStart (lc3 elt t0 i0 t1 i1 t2 i2 scope pos) 2 it acc env) R s := by
  refine codeAny_of_tree ?_
  show wpAny _ _ ((compStart (lc3 elt t0 i0 t1 i1 t2 i2 scope pos) 2 it acc env).onRaise (fun x => do noteFrame x env; standAt theWindowsPlace)) _ _ s
  refine wpAny_notedAt ?_
  unfold compStart
  show wpAny _ _ (ask >>= _) _ _ s
  refine wpAny_bind (wpAny_askSetting (wpAny_ite ?_))
  split
  · first
      | exact wpAny_bind (wpAny_pure (wpAny_pure (And.intro rfl h0)))
      | exact wpAny_pure (And.intro rfl h0)
  · first
      | exact wpAny_bind (wpAny_rule (wpAny_bind (wpAny_standAt (wpAny_bind (wpAny_mono h (fun it' s' h' => wpAny_pure (And.intro rfl h')) fun _ _ x => x)))))
      | (refine wpAny_bind (wpAny_rule ?_); show wpAny _ _ (standAt i2.pos >>= _) _ _ s; exact wpAny_bind (wpAny_standAt (wpAny_bind (wpAny_mono h (fun it' s' h' => wpAny_pure (And.intro rfl h')) fun _ _ x => x))))
end
/-! ### steps within a block -/
abbrev TB := L2.St → Hp → (Hp → Prop) → Prop
def BO (Y : Cx) (body : Sem Fin → Sem Fin) (tb : TB) (vs : List Nat) : Prop := ∀ (pins : List (Addr × Obj)) (s : Shared) (σ : L2.St) (H : Hp) (N : Hp → Prop), Inv Y pins σ H s → tb σ H N → StepAt Y.prog Y.w Y.A body (fun s' => ∃ H', Inv Y pins (L2.wipe σ vs) H' s' ∧ N H') s
def tbEm (D : Addr) (te : TE) : TB := fun σ H N => te σ H fun y H4 => ∃ acc, H4 D = some (.lst acc) ∧ acc.length < sizeLine ∧ N (upd H4 D (.lst (acc ++ [y])))
def tbCl (wi : TI) (g : TG) (vs : List Nat) (tb : TB) : TB := fun σ H N => wi σ H fun J H4 => ∃ W1 : Nat → Nat → Hp → Prop, (∃ m, W1 0 m H4) ∧ ∀ j k H, W1 j k H →
  (J.stop j H ∧ N H) ∨ (J.go j H ∧ ∃ Nx1 : Hp → Prop, (∀ H', Nx1 H' → ∃ k', k' < k ∧ W1 (j + 1) k' H') ∧ ∀ x H', J.yld j H x H' → g x (L2.wipe σ vs) H' fun σ3 H5 => L2.wipe σ3 vs = L2.wipe σ vs ∧ tb σ3 H5 Nx1)
section
variable {Y : Cx} {elt t0 i0 t1 i1 t2 i2 t i : Expr} {scope : Scope} {pos : Pos} {d : Nat} {body : Sem Fin → Sem Fin} {D : Addr} {te : TE} {vs : List Nat} {wi : TI} {g : TG} {tb : TB}
theorem bo_em (hx : Y.xe = fun _ _ => False) (he : PE Y elt te) : BO Y (emStep elt (.ref D) Y.env) (tbEm D te) vs := fun pins s σ H N I h k Q E hk => by
  have hr := he.run pins s σ H _ I h
  rw [hx] at hr
  unfold emStep
  refine wpAny_bind (wpAny_bind (thnF hr fun z s1 ⟨yv, H1, I1, r1, acc, hD, hz, nx⟩ => wpAny_bind ?_))
  exact app_ok I1 hD hz r1 fun s2 I2 => wpAny_pure (hk s2 ⟨_, I2.weak (wipe_length _ _) (fun j v e => (wipe_some e).1), nx⟩)
theorem bo_cl (hx : Y.xe = fun _ _ => False) (hc : Y.calm = true) (hi : PI Y t i wi) (hg : PG Y t g) (hb : BO Y body tb vs) (hs : ∀ x, foldedSetIterable i Y.env x = pure x)
    (hturn : ∀ it, compTurn (lc3 elt t0 i0 t1 i1 t2 i2 scope pos) d it (.ref D) Y.env = turnOf (lc3 elt t0 i0 t1 i1 t2 i2 scope pos) t i d it (.ref D) Y.env body)
    (hst : ∀ {R : Result → Shared → Prop} {it : Value} {s : Shared}, codeAny (model Y.prog Y.w) Y.A (.compLoop (lc3 elt t0 i0 t1 i1 t2 i2 scope pos) d it (.ref D) Y.env) R s →
      wpAny (model Y.prog Y.w) Y.A (pyIter it) (fun it' s' => codeAny (model Y.prog Y.w) Y.A (.compLoop (lc3 elt t0 i0 t1 i1 t2 i2 scope pos) d it' (.ref D) Y.env) R s') (notedBy (model Y.prog Y.w) Y.A Y.env fun x s' => R (.error x) s') s →
      codeAny (model Y.prog Y.w) Y.A (.compStart (lc3 elt t0 i0 t1 i1 t2 i2 scope pos) d it (.ref D) Y.env) R s) :
    BO Y (clStep (lc3 elt t0 i0 t1 i1 t2 i2 scope pos) i d (.ref D) Y.env) (tbCl wi g vs tb) vs := fun pins s σ H N I h k Q E hk => by
  have hr := hi.run pins s σ H _ I h
  rw [hx] at hr
  unfold clStep
  refine wpAny_bind (thnF hr fun xv s10 hx10 => ?_)
  refine wpAny_bind (wpAny_standAt (wpAny_bind (wpAny_of_eq (hs xv) (wpAny_bind (wpAny_holding (thnF hx10 fun itv s11 h11 => ?_))))))
  obtain ⟨it1, fp1, tn1, J1, H11, e1, I11, T1, st11, f11, W1, ⟨m1, w1⟩, turn1⟩ := h11
  subst e1
  have stat1 : ∀ {H' : Hp}, (∀ b ∈ fp1, H' b = none) → ∀ b ∈ fp1, FpOk Y pins H' b := fun hn b hb => ⟨hn b hb, (f11 b hb).2⟩
  have loop1 : codeAny (model Y.prog Y.w) Y.A (.compLoop (lc3 elt t0 i0 t1 i1 t2 i2 scope pos) d (.ref it1) (.ref D) Y.env)
      (fun r s' => match r with
        | .ok _ => ∃ H', Inv Y pins (L2.wipe σ vs) H' s' ∧ N H'
        | .error _ => False) s11 := by
    refine compLoopB (hturn _) (fun k s' => ∃ j H', Inv Y pins (L2.wipe σ vs) H' s' ∧ tn1 j s'.heap ∧ (∀ b ∈ fp1, H' b = none) ∧ W1 j k H') ?_ m1 ⟨0, H11, I11.weak (wipe_length _ _) (fun j v e => (wipe_some e).1), st11, fun b hb => (f11 b hb).1, w1⟩
    rintro n s12 ⟨j, H12, I12, st12, n12, w12⟩
    rcases turn1 j n H12 w12 with ⟨stop1, nx1⟩ | ⟨go1, Nx1, hNx1, step1⟩
    · refine thnF (T1.done Y rfl rfl rfl hc j _ s12 (L2.wipe σ vs) H12 (fun _ _ => False) I12 (stat1 n12) st12 stop1) fun r s13 ⟨hr, I13⟩ => ?_
      subst hr
      exact ⟨H12, I13, nx1⟩
    · refine thnF (T1.item Y rfl rfl rfl hc j _ s12 (L2.wipe σ vs) H12 (fun _ _ => False) I12 (stat1 n12) st12 go1) fun r s13 ⟨u1, hr, h13⟩ => ?_
      subst hr
      refine thnF h13 fun _ s14 ⟨x1, H14, I14, r14, y14, st14, n14⟩ => ?_
      have I14' := I14.pinned (stat1 n14) (T1.obj _ _ st14)
      have hr := hg.run _ s14 (L2.wipe σ vs) H14 x1 u1 _ I14' r14 (step1 x1 H14 y14)
      rw [hx] at hr
      refine thnF hr fun _ s15 ⟨σ15, H15, I15, hw15, q15⟩ => fun k' Q' E' hk' => hb _ s15 σ15 H15 Nx1 I15 q15 k' Q' E' fun s16 ⟨H16, I16, nx⟩ => hk' s16 ?_
      obtain ⟨m', hm, w'⟩ := hNx1 H16 nx
      have pin' : ∀ b ∈ fp1, ∀ o, s14.heap.get? b = some o → s16.heap.get? b = some o ∧ H16 b = none := fun b hb o e =>
        let z := I16.pin (b, o) (List.mem_append_right _ (List.mem_append_right _ (mem_pinsAt hb e)))
        ⟨z.1, z.2.1⟩
      refine ⟨m', hm, j + 1, H16, ?_, T1.keep _ _ _ st14 fun b hb o e => (pin' b hb o e).1, fun b hb => ?_, w'⟩
      · have I17 := I16.unpinned
        rw [hw15] at I17
        first | exact I17 | (rw [wipe_wipe] at I17; exact I17)
      · obtain ⟨o, e, _⟩ := T1.obj _ _ st14 b hb
        exact (pin' b hb o e).2
  refine wpAny_bind (wpAny_runOwn ?_)
  rw [Around.mark_none]
  refine codeAny_mono (hst loop1 (T1.self Y.A 0 _ _ _ st11 loop1)) fun r s' hr => ?_
  cases r with
  | ok f => first | exact hk s' hr | exact wpAny_bind (wpAny_pure (hk s' hr))
  | error e => exact hr.elim
end
/-! ### the whole -/
def tLB (wi : TI) (g : TG) (vs : List Nat) (tb : Addr → TB) : TE := fun σ H Q => wi σ H fun J H1 => ∀ D, H1 D = none → ∃ W : Nat → Nat → Hp → Prop, (∃ m, W 0 m (upd H1 D (.lst []))) ∧ ∀ i m H, W i m H →
  (J.stop i H ∧ Q (.ref D) H) ∨ (J.go i H ∧ ∃ Nx : Hp → Prop, (∀ H', Nx H' → ∃ m', m' < m ∧ W (i + 1) m' H') ∧ ∀ x H', J.yld i H x H' → g x (L2.wipe σ vs) H' fun σ2 H2 => L2.wipe σ2 vs = L2.wipe σ vs ∧ tb D σ2 H2 Nx)
section
variable {X : Cx} {elt t0 i0 t1 i1 t2 i2 : Expr} {scope : Scope} {own : List (Str × Nat)} {pos pos' : Pos} {wi : TI} {g : TG} {tb : Addr → TB}
theorem lcB_core {pins : List (Addr × Obj)} {s : Shared} {σ : L2.St} {H : Hp} {Q : VK} {use : Option (Value → Sem Unit)} {Qf : Value → Shared → Prop}
    (hc : X.calm = true) (hN : X.N.Nodup) (I : Inv X pins σ H s) (hi : PI X t0 i0 wi) (ok : BlkOk X.N X.env.scope scope own)
    (hg : ∀ (s : Shared) (H : Hp) (C : Addr) (cl : List (Str × Addr)) (fp : List Addr), PG (X.blk s H scope (compEnvC scope cl C X.env) fp) t0 g)
    (hb : ∀ (s : Shared) (H : Hp) (C : Addr) (cl : List (Str × Addr)) (fp : List Addr) (D : Addr), BO (X.blk s H scope (compEnvC scope cl C X.env) fp) (clStep (lc3 elt t0 i0 t1 i1 t2 i2 scope pos) i1 1 (.ref D) (compEnvC scope cl C X.env)) (tb D) (own.map (·.2)))
    (hs : ∀ x, foldedSetIterable i0 X.env x = pure x)
    (h : tLB wi g (own.map (·.2)) tb σ H Q)
    (hRR : ∀ D C s' m H', Inv X pins σ H' s' → Q (.ref D) H' → s'.heap.Ns C m → FpOk X pins H' C → compPost (model X.prog X.w) X.A X.xe use Qf (.ref D) C (.ok .next) s') :
    wpAny (model X.prog X.w) X.A (comprehension (lc3 elt t0 i0 t1 i1 t2 i2 scope pos) scope X.env pos' (newList []) false (eval i0 X.env) use) Qf X.xe s := by
  have hfree : ∀ y ∈ scope.names, y.2 = .free → ∃ c, X.env.cells.lookup y.1 = some c := fun y hy e => by
    rcases ok.free y hy e with k | k
    · exact I.ok.has _ (.inl k)
    · exact I.ok.has _ (.inr k)
  refine wpAny_comprehension_free (use := use) rfl hs (closure_ok hfree) ok.kind (fun y hy e => by rw [ok.uniq y hy, e])
    (thn (hi.run pins s σ H _ I h) fun xv s1 hx => thn hx fun itv s2 h2 => ?_)
  obtain ⟨it, fp, tn, J, H2, e, I2, T, st2, f2, q⟩ := h2
  subst e
  refine wpAny_newObj_type (newEnv_comp ?_) (by show 0 ≤ sizeLine; decide)
  generalize hD : s2.heap.objs.size = D
  have hDn : H2 D = none := I2.hok.fresh (Nat.le_of_eq hD)
  obtain ⟨W, ⟨m0, w0⟩, turn⟩ := q D hDn
  generalize hs3 : ({ s2 with heap := s2.heap.push { cls := .type "list", data := .seq ([] : List Value).toArray } } : Shared) = s3
  have I3 : Inv X pins σ (upd H2 D (.lst [])) s3 := by
    rw [← hs3]
    refine I2.laid (t' := s2.toks) (fun b o e => Heap.get?_push_of_some _ e) (Nat.le_of_eq hD) ⟨Nat.zero_le _, [], 0, .nil, ?_⟩
    rw [← hD]
    exact Heap.get?_push_size _ rfl
  have h3 : s3.heap = s2.heap.push { cls := .type "list", data := .seq ([] : List Value).toArray } := by rw [← hs3]
  have sz : ∀ b ∈ fp, b < s2.heap.objs.size := fun b hb => by
    obtain ⟨o, e, _⟩ := T.obj _ _ st2 b hb
    exact Heap.lt_size e
  have f3 : ∀ b ∈ fp, FpOk X pins (upd H2 D (.lst [])) b ∧ b < s3.heap.objs.size := fun b hb => by
    have hlt := sz b hb
    refine ⟨⟨?_, (f2 b hb).2⟩, by rw [h3, Heap.size_push]; exact Nat.lt_succ_of_lt hlt⟩
    rw [upd_ne (by rw [← hD]; exact Nat.ne_of_lt hlt)]
    exact (f2 b hb).1
  have st3 : tn 0 s3.heap := T.keep _ _ _ st2 fun b _ o e => by rw [h3]; exact Heap.get?_push_of_some _ e
  have I4 := block_start I3 ok hN f3
  have pg := hg s3 (upd H2 D (.lst [])) s3.heap.objs.size (cellsFrom (s3.heap.objs.size + 1) scope.names (cloFrom X.env.cells scope.names [])) fp
  have pb := hb s3 (upd H2 D (.lst [])) s3.heap.objs.size (cellsFrom (s3.heap.objs.size + 1) scope.names (cloFrom X.env.cells scope.names [])) fp D
  show codeAny _ _ (.compStart (lc3 elt t0 i0 t1 i1 t2 i2 scope pos) 0 (.ref it) (.ref D) (compEnvC scope (cellsFrom (s3.heap.objs.size + 1) scope.names (cloFrom X.env.cells scope.names [])) s3.heap.objs.size X.env)) (compPost (model X.prog X.w) X.A X.xe use Qf (.ref D) s3.heap.objs.size) { s3 with heap := pushCells (s3.heap.push { cls := .type "dict", data := .dict #[] }) scope.names }
  have nfp : ∀ b ∈ fp, (upd H2 D (.lst [])) b = none := fun b hb => (f3 b hb).1.1
  generalize hce : compEnvC scope (cellsFrom (s3.heap.objs.size + 1) scope.names (cloFrom X.env.cells scope.names [])) s3.heap.objs.size X.env = ce at I4 pg pb ⊢
  have cL : ce.locals = s3.heap.objs.size := by subst hce; rfl
  generalize hH3 : upd H2 D (.lst []) = H3 at I3 I4 pg pb w0 nfp f3
  generalize hs4 : ({ s3 with heap := pushCells (s3.heap.push { cls := .type "dict", data := .dict #[] }) scope.names } : Shared) = s4 at I4 ⊢
  have st4 : tn 0 s4.heap := T.keep _ _ _ st3 fun b _ o e => by rw [← hs4]; exact pushCells_keeps _ _ _ _ (Heap.get?_push_of_some _ e)
  have stat : ∀ {σ' : L2.St} {H' : Hp} {s' : Shared}, Inv (X.blk s3 H3 scope ce fp) [] σ' H' s' → (∀ b ∈ fp, H' b = none) → ∀ b ∈ fp, FpOk (X.blk s3 H3 scope ce fp) [] H' b := fun {σ' H' s'} I' hn b hb =>
    ⟨hn b hb, (I'.ok.exf b hb).1, I'.ok.exfs b hb, .inl hb, fun x c e => (I'.ok.exf b hb).2 x c e, fun p hp => absurd (show p ∈ ([] : List (Addr × Obj)) ++ [] from hp) (by simp)⟩
  have loop : codeAny (model X.prog X.w) X.A (.compLoop (lc3 elt t0 i0 t1 i1 t2 i2 scope pos) 0 (.ref it) (.ref D) ce) (compPost (model X.prog X.w) X.A X.xe use Qf (.ref D) s3.heap.objs.size) s4 := by
    refine compLoopB turn3_0 (fun n s' => ∃ i H', Inv (X.blk s3 H3 scope ce fp) [] (L2.wipe σ (own.map (·.2))) H' s' ∧ tn i s'.heap ∧ (∀ b ∈ fp, H' b = none) ∧ W i n H') ?_ m0 ⟨0, H3, I4, st4, nfp, w0⟩
    rintro n s5 ⟨i, H5, I5, st5, n5, w5⟩
    rcases turn i n H5 w5 with ⟨stop, qq⟩ | ⟨go, Nx, hNx, step⟩
    · have td := T.done (X.blk s3 H3 scope ce fp) rfl rfl rfl hc i [] s5 _ H5 (fun _ _ => False) I5 (stat I5 n5) st5 stop
      refine thnF td fun r s6 ⟨hr, I6⟩ => ?_
      subst hr
      have I7 : Inv X pins σ H5 s6 := I3.call' (ch := fp) I6.os I6.base I6.hok I6.bare fun b hb => ⟨(f3 b hb).1.2.2.2.1, (f3 b hb).1.2.1, (f3 b hb).1.2.2.2.2.1, (f3 b hb).1.2.2.2.2.2⟩
      have nC : H5 s3.heap.objs.size = none := by
        have z : H5 ce.locals = none := I6.free
        rw [cL] at z
        exact z
      obtain ⟨m, hn, _⟩ := I6.loc
      have hn : s6.heap.Ns ce.locals m := hn
      rw [cL] at hn
      exact hRR D s3.heap.objs.size s6 m H5 I7 qq hn (I3.fpOk (Nat.le_refl _) nC)
    · have ti := T.item (X.blk s3 H3 scope ce fp) rfl rfl rfl hc i [] s5 _ H5 (fun _ _ => False) I5 (stat I5 n5) st5 go
      refine thnF ti fun r s6 ⟨u, hr, h6⟩ => ?_
      subst hr
      refine thnF h6 fun _ s7 ⟨x, H7, I7, r7, y7, st7, n7⟩ => ?_
      have I7' := I7.pinned (stat I7 n7) (T.obj _ _ st7)
      refine thnF (pg.run _ s7 _ H7 x u _ I7' r7 (step x H7 y7)) fun _ s8 ⟨σ8, H8, I8, hw8, q8⟩ => fun k' Q' E' hk' => pb _ s8 σ8 H8 Nx I8 q8 k' Q' E' fun s9 ⟨H9, I9, nx⟩ => hk' s9 ?_
      obtain ⟨m', hm, w'⟩ := hNx H9 nx
      have pin' : ∀ b ∈ fp, ∀ o, s7.heap.get? b = some o → s9.heap.get? b = some o ∧ H9 b = none := fun b hb o e =>
        let z := I9.pin (b, o) (List.mem_append_right _ (List.mem_append_right _ (mem_pinsAt hb e)))
        ⟨z.1, z.2.1⟩
      refine ⟨m', hm, i + 1, H9, ?_, T.keep _ _ _ st7 fun b hb o e => (pin' b hb o e).1, fun b hb => ?_, w'⟩
      · have I10 := I9.unpinned (pins := [])
        rw [hw8] at I10
        first | exact I10 | (rw [wipe_wipe] at I10; exact I10)
      · obtain ⟨o, e, _⟩ := T.obj _ _ st7 b hb
        exact (pin' b hb o e).2
  exact codeAny_compStart_list loop (T.self X.A 0 _ _ _ st4 loop)
theorem pe_lcB (hc : X.calm = true) (hN : X.N.Nodup) (hi : PI X t0 i0 wi) (ok : BlkOk X.N X.env.scope scope own)
    (hg : ∀ (s : Shared) (H : Hp) (C : Addr) (cl : List (Str × Addr)) (fp : List Addr), PG (X.blk s H scope (compEnvC scope cl C X.env) fp) t0 g)
    (hb : ∀ (s : Shared) (H : Hp) (C : Addr) (cl : List (Str × Addr)) (fp : List Addr) (D : Addr), BO (X.blk s H scope (compEnvC scope cl C X.env) fp) (clStep (lc3 elt t0 i0 t1 i1 t2 i2 scope pos) i1 1 (.ref D) (compEnvC scope cl C X.env)) (tb D) (own.map (·.2)))
    (hs : ∀ x, foldedSetIterable i0 X.env x = pure x := by intro _; rfl) : PE X (lc3 elt t0 i0 t1 i1 t2 i2 scope pos) (tLB wi g (own.map (·.2)) tb) := by
  refine ⟨fun pins s σ H Q I h => ?_⟩
  rw [eval_ListComp]
  refine lcB_core hc hN I hi ok hg hb hs h fun D C s' m H' I' q hn f => ⟨m, hn, fun h'' sb => ?_⟩
  obtain ⟨f0, f1, f2, f3, f4, f5⟩ := f
  exact ⟨.ref D, H', I'.turned (t' := s'.toks) (fun b o hb e => (sb.2 b hb).trans e) f0 f1 f3 f4 f5, rfl, q⟩
end
end MW

end
section
set_option Elab.async false
set_option linter.all false
set_option maxRecDepth 100000
/-! MwL3: [e for a in b for c in d for f in g] over data. -/
namespace MW
open PySem PySem.Spec PyProof.Rows L2
abbrev TBD := Sl → Mem → (Mem → Prop) → Prop
def lowB (K : PySem.W.Frag) (T : TBD) : TB := fun σ H N => ∃ δ m Nd, Good K H m σ δ ∧ T δ m Nd ∧ ∀ H' m', Keep H H' → MOk K H' m' → Nd m' → N H'
def dEm (D : Addr) (te : TD) : TBD := fun δ m Nd => te δ m fun d m3 => ∃ acc, m3 D = some (.lst acc) ∧ acc.length < sizeLine ∧ Nd (updM m3 D (.lst (acc ++ [d])))
def ClC (G : TDG) (vs : List Nat) (tb : TBD) (δ : Sl) (Nd : Mem → Prop) (xs : List D) (m1 : Mem) : Prop := ∃ Iv : Nat → Mem → Prop, Iv 0 m1 ∧ (∀ i x m, xs[i]? = some x → Iv i m → G x (wipeD δ vs) m fun δ' m' => tb δ' m' (Iv (i + 1))) ∧ ∀ m, Iv xs.length m → Nd m
def dCl (I : TDI) (G : TDG) (vs : List Nat) (tb : TBD) : TBD := fun δ m Nd => I δ m (ClC G vs tb δ Nd)
section
variable {K : PySem.W.Frag} {Y : Cx} {vs : List Nat}
theorem bo_imp {body : Sem Fin → Sem Fin} {tb tb' : TB} (h : BO Y body tb vs) (i : ∀ σ H N, tb' σ H N → tb σ H N) : BO Y body tb' vs := fun pins s σ H N I q => h pins s σ H N I (i σ H N q)
theorem em_low {D : Addr} {te : TD} {σ : L2.St} {H : Hp} {N : Hp → Prop} (h : lowB K (dEm D te) σ H N) : tbEm D (low K te) σ H N := by
  obtain ⟨δ, m, Nd, g, h, q⟩ := h
  refine ⟨δ, m, _, g, h, fun y H4 d m3 k g3 r ⟨acc, ha, hl, h3⟩ => ?_⟩
  obtain ⟨us, hu, ru⟩ := g3.mem D _ ha
  have k2 : Keep H4 (upd H4 D (.lst (us ++ [y]))) := Keep.over hu id
  exact ⟨us, hu, by rw [← ru.length]; exact hl, q _ _ (k.trans k2) (g3.mem.put (c' := .lst (acc ++ [d])) ha ⟨_, upd_same, (ru.keep k2).app (.cons (r.keep k2) .nil)⟩) h3⟩
theorem cl_low {I : TDI} {G : TDG} {tb : TBD} {σ : L2.St} {H : Hp} {N : Hp → Prop} (h : lowB K (dCl I G vs tb) σ H N) : tbCl (lowI K I) (lowG K vs G) vs (lowB K tb) σ H N := by
  obtain ⟨δ, m, Nd, g, h, q⟩ := h
  refine ⟨δ, m, _, g, h, fun H1 xs m1 J k1 g1 wk ⟨Iv, i0, turn, fin⟩ => ?_⟩
  refine ⟨fun i n H' => n + i = xs.length ∧ ∃ m', Keep H1 H' ∧ MOk K H' m' ∧ Iv i m', ⟨xs.length, by omega, _, Keep.refl _, g1.mem, i0⟩, fun i n H2 ⟨hn, m2, k2, g2, w2⟩ => ?_⟩
  by_cases hlt : i < xs.length
  · have hx : xs[i]? = some xs[i] := List.getElem?_eq_getElem hlt
    refine .inr ⟨wk.goes i H2 k2 hlt, fun H' => (n - 1) + (i + 1) = xs.length ∧ ∃ m', Keep H1 H' ∧ MOk K H' m' ∧ Iv (i + 1) m', fun H' w => ⟨n - 1, by omega, w⟩, fun x H3 hy => ?_⟩
    obtain ⟨k3, hm, r3⟩ := wk.yields i H2 x H3 xs[i] k2 hy hx
    refine ⟨xs[i], wipeD δ vs, m2, _, ⟨hm m2 g2, (g1.sl.keep (k2.trans k3)).wipe _⟩, r3, turn i xs[i] m2 hx w2, fun σ4 H4 δ4 m4 k4 g4 hw h4 => ⟨by rw [hw, wipe_wipe], ?_⟩⟩
    exact ⟨δ4, m4, _, g4, h4, fun H5 m5 k5 g5 h5 => ⟨by omega, m5, ((k2.trans k3).trans k4).trans k5, g5, h5⟩⟩
  · have e : i = xs.length := by omega
    subst e
    exact .inl ⟨wk.stops H2 k2, q H2 m2 (k1.trans k2) g2 (fin m2 w2)⟩
end
def L3c (G : TDG) (vs : List Nat) (tb : Addr → TBD) (δ : Sl) (Kd : D → Mem → Prop) (xs : List D) (m1 : Mem) : Prop := ∀ p, m1 p = none → ∃ Iv : Nat → Mem → Prop, Iv 0 (updM m1 p (.lst [])) ∧
  (∀ i x m, xs[i]? = some x → Iv i m → G x (wipeD δ vs) m fun δ' m' => tb p δ' m' (Iv (i + 1))) ∧ ∀ m, Iv xs.length m → ∃ acc, m p = some (.lst acc) ∧ Kd (.lst acc) (delM m p)
def tL3 (I : TDI) (G : TDG) (vs : List Nat) (tb : Addr → TBD) : TD := fun δ m Kd => I δ m (L3c G vs tb δ Kd)
theorem l3_low {K : PySem.W.Frag} {I : TDI} {G : TDG} {vs : List Nat} {tb : Addr → TBD} {σ : L2.St} {H : Hp} {Q Q0 : VK} (h : low K (tL3 I G vs tb) σ H Q) (hQ : ∀ p us H2, Keep H H2 → H2 p = some (.lst us) → (∀ o, Q (.ref p) (upd H2 p (.frz o (.lst us)))) → Q0 (.ref p) H2) :
    tLB (lowI K I) (lowG K vs G) vs (fun D => lowB K (tb D)) σ H Q0 := by
  obtain ⟨δ, m, Kd, g, h, q⟩ := h
  refine ⟨δ, m, _, g, h, fun H1 xs m1 J k1 g1 wk hh => fun p hp => ?_⟩
  obtain ⟨Iv, i0, turn, fin⟩ := hh p (g1.mem.none_of hp)
  have kp : Keep H1 (upd H1 p (.lst [])) := Keep.fresh hp
  refine ⟨fun i n H' => n + i = xs.length ∧ ∃ m', Keep H1 H' ∧ MOk K H' m' ∧ Iv i m', ⟨xs.length, by omega, _, kp, g1.mem.cell (c := .lst []) hp ⟨[], upd_same, .nil⟩, i0⟩, fun i n H2 ⟨hn, m2, k2, g2, w2⟩ => ?_⟩
  by_cases hlt : i < xs.length
  · have hx : xs[i]? = some xs[i] := List.getElem?_eq_getElem hlt
    refine .inr ⟨wk.goes i H2 k2 hlt, fun H' => (n - 1) + (i + 1) = xs.length ∧ ∃ m', Keep H1 H' ∧ MOk K H' m' ∧ Iv (i + 1) m', fun H' w => ⟨n - 1, by omega, w⟩, fun x H3 hy => ?_⟩
    obtain ⟨k3, hm, r3⟩ := wk.yields i H2 x H3 xs[i] k2 hy hx
    refine ⟨xs[i], wipeD δ vs, m2, _, ⟨hm m2 g2, (g1.sl.keep (k2.trans k3)).wipe _⟩, r3, turn i xs[i] m2 hx w2, fun σ4 H4 δ4 m4 k4 g4 hw h4 => ⟨by rw [hw, wipe_wipe], ?_⟩⟩
    exact ⟨δ4, m4, _, g4, h4, fun H5 m5 k5 g5 h5 => ⟨by omega, m5, ((k2.trans k3).trans k4).trans k5, g5, h5⟩⟩
  · have e : i = xs.length := by omega
    subst e
    obtain ⟨acc, ha, hk⟩ := fin m2 w2
    obtain ⟨us, hu, ru⟩ := g2 p _ ha
    refine .inl ⟨wk.stops H2 k2, hQ p us H2 (k1.trans k2) hu fun o => ?_⟩
    have k7 : Keep H2 (upd H2 p (.frz o (.lst us))) := Keep.over hu id
    exact q (.ref p) _ (.lst acc) _ ((k1.trans k2).trans k7) (g.next ((k1.trans k2).trans k7) (g2.drop ha)) (.lst (.inl ⟨o, upd_same⟩) (ru.keep k7)) hk
section
variable {X : Cx} {elt t0 i0 t1 i1 t2 i2 : Expr} {scope : Scope} {own : List (Str × Nat)} {pos : Pos} {I0 I1 I2 : TDI} {G0 G1 G2 : TDG} {te : TD}
theorem q_lc3 (hc : X.calm = true) (hN : X.N.Nodup) (hi : QI X t0 i0 I0) (ok : BlkOk X.N X.env.scope scope own)
    (hg0 : ∀ (s : Shared) (H : Hp) (C : Addr) (cl : List (Str × Addr)) (fp : List Addr), QG (X.blk s H scope (compEnvC scope cl C X.env) fp) (own.map (·.2)) t0 G0)
    (hi1 : ∀ (s : Shared) (H : Hp) (C : Addr) (cl : List (Str × Addr)) (fp : List Addr), QI (X.blk s H scope (compEnvC scope cl C X.env) fp) t1 i1 I1)
    (hg1 : ∀ (s : Shared) (H : Hp) (C : Addr) (cl : List (Str × Addr)) (fp : List Addr), QG (X.blk s H scope (compEnvC scope cl C X.env) fp) (own.map (·.2)) t1 G1)
    (hi2 : ∀ (s : Shared) (H : Hp) (C : Addr) (cl : List (Str × Addr)) (fp : List Addr), QI (X.blk s H scope (compEnvC scope cl C X.env) fp) t2 i2 I2)
    (hg2 : ∀ (s : Shared) (H : Hp) (C : Addr) (cl : List (Str × Addr)) (fp : List Addr), QG (X.blk s H scope (compEnvC scope cl C X.env) fp) (own.map (·.2)) t2 G2)
    (he : ∀ (s : Shared) (H : Hp) (C : Addr) (cl : List (Str × Addr)) (fp : List Addr), QE (X.blk s H scope (compEnvC scope cl C X.env) fp) elt te)
    (hs : ∀ x, foldedSetIterable i0 X.env x = pure x := by intro _; rfl) (hs1 : ∀ env x, foldedSetIterable i1 env x = pure x := by intro _ _; rfl) (hs2 : ∀ env x, foldedSetIterable i2 env x = pure x := by intro _ _; rfl) :
    QE X (.ListComp elt [⟨t0, i0, [], 0⟩, ⟨t1, i1, [], 0⟩, ⟨t2, i2, [], 0⟩] scope pos) (tL3 I0 G0 (own.map (·.2)) fun D => dCl I1 G1 (own.map (·.2)) (dCl I2 G2 (own.map (·.2)) (dEm D te))) :=
  pe_imp (pe_frz (pe_lcB (g := lowG X.K (own.map (·.2)) G0) (tb := fun D => lowB X.K (dCl I1 G1 (own.map (·.2)) (dCl I2 G2 (own.map (·.2)) (dEm D te)))) hc hN hi ok hg0 (fun s H C cl fp D =>
    bo_imp (bo_cl (Y := X.blk s H scope (compEnvC scope cl C X.env) fp) (D := D) rfl hc (hi1 s H C cl fp) (hg1 s H C cl fp)
      (bo_imp (bo_cl (Y := X.blk s H scope (compEnvC scope cl C X.env) fp) (D := D) rfl hc (hi2 s H C cl fp) (hg2 s H C cl fp)
        (bo_imp (bo_em (Y := X.blk s H scope (compEnvC scope cl C X.env) fp) (D := D) rfl (he s H C cl fp)) fun σ H N h => em_low h) (hs2 _) (fun _ => turn3_2) (fun h0 h => compStart3_2 h0 h)) fun σ H N h => cl_low h)
      (hs1 _) (fun _ => turn3_1) (fun h0 h => compStart3_1 h0 h)) fun σ H N h => cl_low h) hs)) fun σ H Q h => by exact l3_low (Q0 := fun v H1 => ∃ p u, v = .ref p ∧ H1 p = some u ∧ Mut (some u) ∧ ∀ o, Q v (upd H1 p (.frz o u))) h fun p us H2 _ hu hk => ⟨p, .lst us, rfl, hu, trivial, hk⟩
end
/-- a clause each of whose turns adds f y -/
theorem cl_app {α : Type} {ys : List α} {enc : α → D} {f : α → List D} {G : TDG} {vs : List Nat} {tb : TBD} {δ : Sl} {Nd : Mem → Prop} {m1 : Mem} {p : Addr} {acc : List D} (ha : m1 p = some (.lst acc)) (hl : acc.length + (ys.flatMap f).length ≤ sizeLine)
    (turn : ∀ y ∈ ys, ∀ (m : Mem) (acc' : List D) (N : Mem → Prop), m p = some (.lst acc') → acc'.length + (f y).length ≤ sizeLine → N (updM m p (.lst (acc' ++ f y))) → G (enc y) (wipeD δ vs) m fun δ' m' => tb δ' m' N)
    (h : Nd (updM m1 p (.lst (acc ++ ys.flatMap f)))) : ClC G vs tb δ Nd (ys.map enc) m1 := by
  have same : ∀ {m : Mem} {c : D}, m p = some c → updM m p c = m := fun {m c} e => by
    funext b
    by_cases hb : b = p
    · rw [hb, updM_same, e]
    · rw [updM_ne hb]
  refine ⟨fun i m => m = updM m1 p (.lst (acc ++ (ys.take i).flatMap f)), by simp [same ha], fun i x m hx hm => ?_, fun m hm => ?_⟩
  · subst hm
    rw [List.getElem?_map] at hx
    cases e : ys[i]? with
    | none => rw [e] at hx; cases hx
    | some y =>
      rw [e] at hx
      have ex := Option.some.inj hx
      subst ex
      have hi : i < ys.length := (List.getElem?_eq_some_iff.mp e).1
      have et : ys.take (i + 1) = ys.take i ++ [y] := by rw [List.take_add_one, e]; rfl
      have el : (ys.flatMap f).length = ((ys.take (i + 1)).flatMap f).length + ((ys.drop (i + 1)).flatMap f).length := by
        rw [← List.length_append, ← List.flatMap_append, List.take_append_drop]
      rw [et, List.flatMap_append, List.length_append] at el
      simp only [List.flatMap_cons, List.flatMap_nil, List.append_nil] at el
      refine turn y (List.mem_of_getElem? e) _ _ _ updM_same (by rw [List.length_append]; omega) ?_
      show updM (updM m1 p _) p _ = updM m1 p (.lst (acc ++ (ys.take (i + 1)).flatMap f))
      rw [updM_updM, et, List.flatMap_append, List.append_assoc]
      simp
  · rw [List.length_map, List.take_length] at hm
    subst hm
    exact h
theorem l3_app {α : Type} {ys : List α} {enc : α → D} {f : α → List D} {G : TDG} {vs : List Nat} {tb : Addr → TBD} {δ : Sl} {Kd : D → Mem → Prop} {m1 : Mem} (hl : (ys.flatMap f).length ≤ sizeLine)
    (turn : ∀ (p : Addr), ∀ y ∈ ys, ∀ (m : Mem) (acc' : List D) (N : Mem → Prop), m p = some (.lst acc') → acc'.length + (f y).length ≤ sizeLine → N (updM m p (.lst (acc' ++ f y))) → G (enc y) (wipeD δ vs) m fun δ' m' => tb p δ' m' N)
    (h : Kd (.lst (ys.flatMap f)) m1) : L3c G vs tb δ Kd (ys.map enc) m1 := fun p hp => by
  obtain ⟨Iv, h0, h1, h2⟩ := cl_app (m1 := updM m1 p (.lst [])) (acc := []) (Nd := fun m => m = updM m1 p (.lst (ys.flatMap f))) (δ := δ) (vs := vs) (tb := tb p) (G := G) (enc := enc) updM_same (by simpa using hl) (turn p) (by rw [updM_updM]; rfl)
  refine ⟨Iv, h0, h1, fun m hm => ?_⟩
  have e := h2 m hm
  subst e
  exact ⟨_, updM_same, by rw [delM_updM hp]; exact h⟩
end MW

end
section
set_option Elab.async false
set_option linter.all false
set_option maxRecDepth 100000
/-! MwFk: f(a, b, c, k = d). -/
namespace MW
open PySem PySem.Spec PyProof.Rows L2
/-- n positional values, then one keyword's -/
def g1 {α : Type} (n : Nat) (us ws : List α) : List α := if us.length = n ∧ ws.length = 1 then us ++ ws else []
theorem vals_app {xs ys : List V} {us ws : List Value} (r : Vals xs us) (t : Vals ys ws) : Vals (xs ++ ys) (us ++ ws) := Vals.append r t
def FdK (P : Program) (w : World) (K : PySem.W.Frag) (mg : Str → Option Value) (base : Heap) (k : Nat) (x : Str) (ps ks : List Str) (n : Nat) (S : DSp) : Prop :=
  ∃ (f : Addr) (fd : FuncData), FnOk P w K mg base CX0 k f fd ps (spD K S) ∧ mg x = some (.ref f) ∧ PySem.W.keepIn K (.ref f) = true ∧ KBinds K fd ps ks (g1 n) (g1 n)
theorem kb_of {K : PySem.W.Frag} {fd : FuncData} {ps ks : List Str} {n : Nat} (h : ∀ us ws : List Value, us.length = n → ws.length = 1 → bindArgs fd ⟨us, ks.zip ws⟩ = pure (ps.zip (us ++ ws))) (hn : ps.length = n + 1) : KBinds K fd ps ks (g1 n) (g1 n) where
  to := fun s us ws _ hl => by
    unfold g1 at hl ⊢
    split at hl
    · rename_i e
      rw [if_pos e]
      exact .of_eq (h us ws e.1 e.2)
    · rw [hn] at hl; cases hl
  rel := fun r t => by
    unfold g1
    rw [r.length, t.length]
    split
    · exact vals_app r t
    · exact .nil
section
variable {X : Cx} {k n : Nat} {ps ks : List Str} {S : DSp} {x : Str} {p pos : Pos} {e : Expr} {es : List Expr} {kws : List Keyword} {t tk : TDA}
def tClK (n : Nat) (S : DSp) (t tk : TDA) : TD := fun δ m Kd => t δ m fun ds m1 => tk δ m1 fun zs m2 => ds.length = n ∧ zs.length = 1 ∧ S (ds ++ zs) m2 Kd
theorem q_fdk (F : FdK X.prog X.w X.K X.mg X.base k x ps ks n S) (hr : Room k X.A) (hg : Gl X x) (ha : QA X (e :: es) t) (hkw : QK X kws tk)
    (hall : (backToKw pos (keywordEach kws X.env)).all (·.1.isSome) = true := by rfl) (hks : (backToKw pos (keywordEach kws X.env)).filterMap (·.1) = ks := by rfl)
    (hdb : (x == ("__debug__" : Str)) = false := by decide) (he : starEach (e :: es) X.env = (false, eval e X.env) :: starEach es X.env := by rfl)
    (hpl : ((backTo pos (starEach (e :: es) X.env)).any (·.1) || (backToKw pos (keywordEach kws X.env)).any (·.1.isNone)) = false := by rfl) :
    QE X (.Call (.Name x p) (e :: es) kws pos) (tClK n S t tk) := by
  obtain ⟨f, fd, F, hm, hk, hb⟩ := F
  exact pe_imp (pe_callK F hr hg hm hk hb pass0 ha hkw hall hks hdb he hpl) fun σ H Q ⟨δ, m, Kd, g, h, q⟩ => ⟨δ, m, _, g, h, fun vs H1 ds m1 k1 gd1 r1 h1 => ⟨δ, m1, _, gd1, h1, fun zs H2 es m2 k2 gd2 r2 ⟨l1, l2, h2⟩ => by
    have e1 : vs.length = n := by rw [← r1.length]; exact l1
    have e2 : zs.length = 1 := by rw [← r2.length]; exact l2
    show spD X.K S (if vs.length = n ∧ zs.length = 1 then vs ++ zs else []) H2 Q E0
    rw [if_pos ⟨e1, e2⟩]
    exact ⟨ds ++ es, m2, Kd, (r1.keep k2).app r2, gd2.mem, h2, fun v H3 d m3 k3 g3 r3 h3 => q v H3 d m3 ((k1.trans k2).trans k3) (gd2.next k3 g3) r3 h3⟩⟩⟩
end
end MW

end
section
set_option Elab.async false
set_option linter.all false
set_option maxRecDepth 100000
/-! MwData: sayings, prices, games as plain data, and how they are written as D. -/
namespace MW
open PySem PySem.Spec PyProof.Rows L2
def topS (i : Nat) : Stmt := PySem.Challenge.pw_mildwarden_k96_whole_apart_and_together.main.body.getD i (.Pass ⟨0, 0, 0, 0⟩)

def encO : Option Nat → D
  | none => .non
  | some n => .int (n : Nat)
abbrev rgM (n : Nat) (f : Nat → D) : List D := (List.range n).map f
abbrev nD (n : Nat) : D := .int (n : Nat)
theorem get_rg {n i : Nat} {f : Nat → D} (h : i < n) : (rgM n f)[i]? = some (f i) := by
  unfold rgM
  rw [List.getElem?_map, List.getElem?_range h]
  rfl
theorem rg_get {n i : Nat} {f : Nat → D} {d : D} (h : (rgM n f)[i]? = some d) : i < n ∧ d = f i := by
  have hi : i < n := by
    have := (List.getElem?_eq_some_iff.mp h).1
    unfold rgM at this
    rw [List.length_map, List.length_range] at this
    exact this
  rw [get_rg hi] at h
  exact ⟨hi, (Option.some.inj h).symm⟩
theorem rg_length {n : Nat} {f : Nat → D} : (rgM n f).length = n := by unfold rgM; rw [List.length_map, List.length_range]
theorem at_rg {n i : Nat} {f : Nat → D} (h : i < n) : atI (rgM n f) ((i : Nat) : Int) = some (f i) := atI_nat (get_rg h)

structure Say where
  signs : Nat
  deeds : Nat
  rooms : Nat
  go : Nat → Nat → Nat → Option Nat
abbrev Say.rowD (s : Say) (r g : Nat) : D := .tup (rgM s.deeds fun d => encO (s.go r g d))
abbrev Say.roomD (s : Say) (r : Nat) : D := .tup (rgM s.signs (s.rowD r))
abbrev Say.tableD (s : Say) : D := .tup (rgM s.rooms s.roomD)
def Say.enc (s : Say) : D := .tup [nD s.signs, nD s.deeds, s.tableD]
structure Say.Ok (s : Say) : Prop where
  s1 : 1 ≤ s.signs
  s2 : s.signs ≤ 2
  d1 : 1 ≤ s.deeds
  d2 : s.deeds ≤ 3
  r1 : 1 ≤ s.rooms
  r2 : s.rooms ≤ 6
  go : ∀ r g d t, s.go r g d = some t → t < s.rooms

/-- prices: none is EVEN -/
abbrev Fee := Option (Nat → Nat → Option Nat)
abbrev feeRow (n : Nat) (c : Nat → Nat → Option Nat) (w : Nat) : D := .tup (rgM n fun g => encO (c w g))
def Fee.enc (n : Nat) : Fee → D
  | none => .non
  | some c => .tup (rgM n (feeRow n c))
def Fee.cost (f : Fee) (w g : Nat) : Option Nat := match f with
  | none => if g = w then some 0 else some 1
  | some c => c w g
structure Fee.Ok (n : Nat) (f : Fee) : Prop where
  self : ∀ w, f.cost w w = some 0
  other : ∀ w g p, w ≠ g → f.cost w g = some p → 1 ≤ p ∧ p ≤ 6
end MW

end
section
set_option Elab.async false
set_option linter.all false
set_option maxRecDepth 100000
set_option pp.maxSteps 400
/-! MwA: sayings/tables, keeping/prices: the looks at what is handed in. -/
namespace MW
open PySem PySem.Spec PyProof.Rows L2
/-- a promise that says: this many arguments, these, this value, the memory as it was -/
abbrev pureS (n : Nat) (A : List D → D → Prop) : DSp := fun ds m Kd => ds.length = n ∧ ∃ d, A ds d ∧ Kd d m
section
variable {P : Program} {w : World} {K : PySem.W.Frag} {mg : Str → Option Value} {base : Heap}

abbrev st_is_whole : Stmt := topS 11
theorem sc_is_whole : FnScope ["thing"] ["thing"] (defScope st_is_whole) := ⟨rfl, rfl, rfl, by decide +kernel, rfl, by decide +kernel, by decide +kernel⟩
def sp_is_whole : DSp := pureS 1 fun ds d => ∃ i, ds = [.int i] ∧ d = .bl true
theorem ok_is_whole {f : Addr} {fd : FuncData} (F : Fun K "is_whole" "is_whole" st_is_whole f fd) (T : Txt mg)  : FnOk P w K mg base CX0 1 f fd ["thing"] (spD K sp_is_whole) := by
  refine fn_d F sc_is_whole (fun _ _ _ h => h.1) fun cdv A outer s H E hr => ⟨_, (qss_one (qs_ret (q_and (q_callB call_isi liftIsi (by rfl) T.isi (by decide +kernel) (qa_cons (qv 0) (qa_cons (q_type (n := "int") (by rfl) T.int (by decide +kernel)) qa_nil))) (q_one (q_not (q_callB call_isi liftIsi (by rfl) T.isi (by decide +kernel) (qa_cons (qv 0) (qa_cons (q_type (n := "bool") (by rfl) T.bool (by decide +kernel)) qa_nil)))))))), fun ds m Kd h => ?_⟩
  obtain ⟨_, _, ⟨i, rfl, rfl⟩, h⟩ := h
  refine ⟨_, rfl, _, _, _, _, rfl, rfl, by rfl, true, rfl, fun _ => ?_, nofun⟩
  exact ⟨_, rfl, _, _, _, _, rfl, rfl, by rfl, false, rfl, m, SubM.refl m, h⟩

abbrev st_is_below : Stmt := topS 12
theorem sc_is_below : FnScope ["thing", "most"] ["thing", "most"] (defScope st_is_below) := ⟨rfl, rfl, rfl, by decide +kernel, rfl, by decide +kernel, by decide +kernel⟩
def sp_is_below : DSp := pureS 2 fun ds d => ∃ i j, ds = [.int i, .int j] ∧ d = .bl (decide (0 ≤ i) && decide (i < j))
theorem ok_is_below {f : Addr} {fd : FuncData} (F : Fun K "is_below" "is_below" st_is_below f fd) (T : Txt mg) (G_is_whole : Fd P w K mg base 1 "is_whole" ["thing"] sp_is_whole) : FnOk P w K mg base CX0 2 f fd ["thing", "most"] (spD K sp_is_below) := by
  refine fn_d F sc_is_below (fun _ _ _ h => h.1) fun cdv A outer s H E hr => ⟨_, (qss_one (qs_ret (q_and (q_fd G_is_whole (hr.mono (by decide)) (by rfl) (qa_cons (qv 0) qa_nil)) (q_one (q_chain op_le op_lt liftB0 liftB0 q_int (qv 0) (qv 1)))))), fun ds m Kd h => ?_⟩
  obtain ⟨_, _, ⟨i, j, rfl, rfl⟩, h⟩ := h
  refine ⟨_, rfl, rfl, _, ⟨i, rfl, rfl⟩, true, rfl, fun _ => ?_, nofun⟩
  refine ⟨_, rfl, 0, i, rfl, rfl, _, rfl, fun e => ⟨_, rfl, i, j, rfl, rfl, m, SubM.refl m, ?_⟩, fun e => ⟨m, SubM.refl m, ?_⟩⟩
  · rw [e, Bool.true_and] at h; exact h
  · rw [e, Bool.false_and] at h; exact h

abbrev st_is_count : Stmt := topS 13
theorem sc_is_count : FnScope ["thing"] ["thing"] (defScope st_is_count) := ⟨rfl, rfl, rfl, by decide +kernel, rfl, by decide +kernel, by decide +kernel⟩
def sp_is_count : DSp := pureS 1 fun ds d => ∃ i, ds = [.int i] ∧ 1 ≤ i ∧ i ≤ 9 ∧ d = .bl true
theorem ok_is_count {f : Addr} {fd : FuncData} (F : Fun K "is_count" "is_count" st_is_count f fd) (T : Txt mg) (G_is_whole : Fd P w K mg base 1 "is_whole" ["thing"] sp_is_whole) : FnOk P w K mg base CX0 2 f fd ["thing"] (spD K sp_is_count) := by
  refine fn_d F sc_is_count (fun _ _ _ h => h.1) fun cdv A outer s H E hr => ⟨_, (qss_one (qs_ret (q_and (q_fd G_is_whole (hr.mono (by decide)) (by rfl) (qa_cons (qv 0) qa_nil)) (q_one (q_chain op_le op_le liftB0 liftB0 q_int (qv 0) (q_gi (by rfl) T.gWIDE)))))), fun ds m Kd h => ?_⟩
  obtain ⟨_, _, ⟨i, rfl, h1, h2, rfl⟩, h⟩ := h
  refine ⟨_, rfl, rfl, _, ⟨i, rfl, rfl⟩, true, rfl, fun _ => ?_, nofun⟩
  refine ⟨_, rfl, 1, i, rfl, rfl, _, rfl, fun e => ⟨i, 9, rfl, rfl, m, SubM.refl m, ?_⟩, fun e => absurd (decide_eq_true h1) (by rw [e]; decide)⟩
  show Kd (.bl (decide (i ≤ 9))) m
  rw [decide_eq_true h2]; exact h

abbrev st_is_row : Stmt := topS 14
theorem sc_is_row : FnScope ["thing", "many"] ["thing", "many"] (defScope st_is_row) := ⟨rfl, rfl, rfl, by decide +kernel, rfl, by decide +kernel, by decide +kernel⟩
def sp_is_row : DSp := pureS 2 fun ds d => ∃ xs, ds = [.tup xs, nD xs.length] ∧ d = .bl true
theorem ok_is_row {f : Addr} {fd : FuncData} (F : Fun K "is_row" "is_row" st_is_row f fd) (T : Txt mg)  : FnOk P w K mg base CX0 1 f fd ["thing", "many"] (spD K sp_is_row) := by
  refine fn_d F sc_is_row (fun _ _ _ h => h.1) fun cdv A outer s H E hr => ⟨_, (qss_one (qs_ret (q_and (q_callB call_isi liftIsi (by rfl) T.isi (by decide +kernel) (qa_cons (qv 0) (qa_cons (q_type (n := "tuple") (by rfl) T.tup (by decide +kernel)) qa_nil))) (q_one (q_cmp (op_eqD hr.units) liftEq (q_callB call_lenA liftLen (by rfl) T.len (by decide +kernel) (qa_cons (qv 0) qa_nil)) (qv 1) (nomark _)))))), fun ds m Kd h => ?_⟩
  obtain ⟨_, _, ⟨xs, rfl, rfl⟩, h⟩ := h
  refine ⟨_, rfl, _, _, _, _, rfl, rfl, by rfl, true, rfl, fun _ => ?_, nofun⟩
  refine ⟨_, rfl, _, _, rfl, rfl, _, rfl, rfl, rfl, m, SubM.refl m, ?_⟩
  rw [eqD_int, beq_self_eq_true]
  exact h

abbrev st_is_room : Stmt := topS 15
theorem sc_is_room : FnScope ["thing", "signs", "deeds", "many", "row", "behind"] ["thing", "signs", "deeds", "many"] (defScope st_is_room) := ⟨rfl, rfl, rfl, by decide +kernel, rfl, by decide +kernel, by decide +kernel⟩
def sp_is_room : DSp := pureS 4 fun ds d => ∃ s r, Say.Ok s ∧ ds = [s.roomD r, nD s.signs, nD s.deeds, nD s.rooms] ∧ d = .bl true
theorem ok_is_room {f : Addr} {fd : FuncData} (F : Fun K "is_room" "is_room" st_is_room f fd) (T : Txt mg) (G_is_row : Fd P w K mg base 1 "is_row" ["thing", "many"] sp_is_row) (G_is_below : Fd P w K mg base 2 "is_below" ["thing", "most"] sp_is_below) : FnOk P w K mg base CX0 3 f fd ["thing", "signs", "deeds", "many"] (spD K sp_is_room) := by
  refine fn_d F sc_is_room (fun _ _ _ h => h.1) fun cdv A outer s H E hr => ⟨_, (qss_cons (qs_if (qt_not (qt_val (q_fd G_is_row (hr.mono (by decide)) (by rfl) (qa_cons (qv 0) (qa_cons (qv 1) qa_nil)))))
 (qss_one (qs_ret q_bl))
 qss_nil)
 (qss_cons (qs_for (vs := [4]) PassesOwn.never rfl (qi_tup (qv 0)) (qg_name (i := 4) sc_is_room.nd rfl (by first | exact .inl rfl | exact .inr rfl))
 (qss_cons (qs_if (qt_not (qt_val (q_fd G_is_row (hr.mono (by decide)) (by rfl) (qa_cons (qv 4) (qa_cons (qv 2) qa_nil)))))
 (qss_one (qs_ret q_bl))
 qss_nil)
 (qss_one (qs_for (vs := [5]) PassesOwn.never rfl (qi_tup (qv 4)) (qg_name (i := 5) sc_is_room.nd rfl (by first | exact .inl rfl | exact .inr rfl))
 (qss_one (qs_if (PW.pt (qw_and (qt_cmp op_notN liftNotN (qv 5) q_non (nomark _)) (qw_and1 (qt_not (qt_val (q_fd G_is_below (hr.mono (by decide)) (by rfl) (qa_cons (qv 5) (qa_cons (qv 3) qa_nil))))))))
 (qss_one (qs_ret q_bl))
 qss_nil))))))
 (qss_one (qs_ret q_bl)))), fun ds m Kd h => ?_⟩
  obtain ⟨_, _, ⟨z, r, ok, rfl, rfl⟩, h⟩ := h
  refine ⟨_, rfl, _, rfl, rfl, _, ⟨_, by rw [rg_length], rfl⟩, _, rfl, nofun, fun _ => ?_⟩
  refine ⟨_, rfl, _, rfl, fun i δ m' => m' = m ∧ ∃ x y, δ = [some (z.roomD r), some (nD z.signs), some (nD z.deeds), some (nD z.rooms), x, y], ⟨rfl, none, none, rfl⟩, ?_, ?_⟩
  · rintro i x δ m' hx ⟨rfl, x4, x5, rfl⟩
    obtain ⟨hi, rfl⟩ := rg_get hx
    refine ⟨_, rfl, _, rfl, rfl, _, ⟨_, by rw [rg_length], rfl⟩, _, rfl, nofun, fun _ => ?_⟩
    refine ⟨_, rfl, _, rfl, fun i' δ m'' => m'' = m' ∧ ∃ y, δ = [some (z.roomD r), some (nD z.signs), some (nD z.deeds), some (nD z.rooms), some (z.rowD r i), y], ⟨rfl, x5, rfl⟩, ?_, ?_⟩
    · rintro j y δ m'' hy ⟨rfl, y5, rfl⟩
      obtain ⟨hj, rfl⟩ := rg_get hy
      cases e : z.go r i j with
      | none => exact ⟨_, rfl, rfl, .inl ⟨rfl, _, rfl, nofun, fun _ => ⟨nofun, fun _ => ⟨rfl, _, rfl⟩⟩⟩⟩
      | some t =>
        have ht := ok.go _ _ _ _ e
        refine ⟨_, rfl, rfl, .inr (.inl ⟨⟨_, rfl⟩, _, rfl, fun _ => ?_, nofun⟩)⟩
        refine ⟨_, rfl, _, rfl, rfl, _, ⟨_, _, rfl, rfl⟩, _, rfl, fun q => ?_, fun _ => ⟨rfl, _, rfl⟩⟩
        rw [decide_eq_true (show (0 : Int) ≤ (t : Nat) by omega), decide_eq_true (show ((t : Nat) : Int) < (z.rooms : Nat) by omega)] at q
        cases q
    · rintro δ m'' ⟨rfl, y5, rfl⟩
      exact ⟨rfl, _, _, rfl⟩
  · rintro δ m' ⟨rfl, x4, x5, rfl⟩
    exact ⟨_, SubM.refl _, h⟩

abbrev st_is_saying : Stmt := topS 16
theorem sc_is_saying : FnScope ["thing", "signs", "deeds", "rooms", "room"] ["thing"] (defScope st_is_saying) := ⟨rfl, rfl, rfl, by decide +kernel, rfl, by decide +kernel, by decide +kernel⟩
def sp_is_saying : DSp := pureS 1 fun ds d => ∃ s, Say.Ok s ∧ ds = [s.enc] ∧ d = .bl true
theorem turn_any {δ : Sl} {m m1 : Mem} {Q : Option D → Mem → Prop} {x : D} (h : Q (some x) m) : (true = true → Q (some x) m) ∧ (true = false → Q none m) := ⟨fun _ => h, nofun⟩
theorem ok_is_saying {f : Addr} {fd : FuncData} (F : Fun K "is_saying" "is_saying" st_is_saying f fd) (T : Txt mg) (G_is_row : Fd P w K mg base 1 "is_row" ["thing", "many"] sp_is_row) (G_is_count : Fd P w K mg base 2 "is_count" ["thing"] sp_is_count) (G_is_room : Fd P w K mg base 3 "is_room" ["thing", "signs", "deeds", "many"] sp_is_room) : FnOk P w K mg base CX0 4 f fd ["thing"] (spD K sp_is_saying) := by
  refine fn_d F sc_is_saying (fun _ _ _ h => h.1) fun cdv A outer s H E hr => ⟨_, (qss_cons (qs_if (qt_not (qt_val (q_fd G_is_row (hr.mono (by decide)) (by rfl) (qa_cons (qv 0) (qa_cons q_int qa_nil)))))
 (qss_one (qs_ret q_bl))
 qss_nil)
 (qss_cons (qs_asg (vs := [1, 2, 3]) (qv 0) (qg_tup rfl (qgs_cons (qg_name (i := 1) sc_is_saying.nd rfl (by first | exact .inl rfl | exact .inr rfl)) (qgs_cons (qg_name (i := 2) sc_is_saying.nd rfl (by first | exact .inl rfl | exact .inr rfl)) (qgs_cons (qg_name (i := 3) sc_is_saying.nd rfl (by first | exact .inl rfl | exact .inr rfl)) qgs_nil)))))
 (qss_cons (qs_if (PW.pt (qw_or (qt_not (qt_val (q_fd G_is_count (hr.mono (by decide)) (by rfl) (qa_cons (qv 1) qa_nil)))) (qw_or (qt_not (qt_val (q_fd G_is_count (hr.mono (by decide)) (by rfl) (qa_cons (qv 2) qa_nil)))) (qw_or1 (qt_not (qt_val (q_callB call_isi liftIsi (by rfl) T.isi (by decide +kernel) (qa_cons (qv 3) (qa_cons (q_type (n := "tuple") (by rfl) T.tup (by decide +kernel)) qa_nil)))))))))
 (qss_one (qs_ret q_bl))
 qss_nil)
 (qss_one (qs_ret (q_and (q_chain op_le op_le liftB0 liftB0 q_int (q_callB call_lenA liftLen (by rfl) T.len (by decide +kernel) (qa_cons (qv 3) qa_nil)) (q_gi (by rfl) T.gMOST)) (q_one (q_callB (cr_all rfl) liftAll (by rfl) T.all (by decide +kernel) (qa_cons (q_lc (own := [("room", 4)]) rfl sc_is_saying.nd (qi_tup (qv 3)) (blkOk_by (by kernel_rfl)) (fun _ _ _ _ _ => (qg_name (i := 4) sc_is_saying.nd rfl (by first | exact .inl rfl | exact .inr rfl))) (fun _ _ _ _ _ => qts_nil) (fun _ _ _ _ _ => (q_fd G_is_room (hr.mono (by decide)) (by rfl) (qa_cons (qv 4) (qa_cons (qv 1) (qa_cons (qv 2) (qa_cons (q_callB call_lenA liftLen (by rfl) T.len (by decide +kernel) (qa_cons (qv 3) qa_nil)) qa_nil))))))) qa_nil))))))))), fun ds m Kd h => ?_⟩
  obtain ⟨_, _, ⟨z, ok, rfl, rfl⟩, h⟩ := h
  refine ⟨_, rfl, rfl, _, ⟨[nD z.signs, nD z.deeds, z.tableD], rfl, rfl⟩, _, rfl, nofun, fun _ => ?_⟩
  refine ⟨_, rfl, [nD z.signs, nD z.deeds, z.tableD], rfl, rfl, _, _, rfl, _, _, rfl, _, _, rfl, rfl, ?_⟩
  have i1 := ok.s1
  have i2 := ok.s2
  have i3 := ok.d1
  have i4 := ok.d2
  have i5 := ok.r1
  have i6 := ok.r2
  refine ⟨_, rfl, rfl, _, ⟨_, rfl, by omega, by omega, rfl⟩, _, rfl, nofun, fun _ => ?_⟩
  refine ⟨_, rfl, rfl, _, ⟨_, rfl, by omega, by omega, rfl⟩, _, rfl, nofun, fun _ => ?_⟩
  refine ⟨_, rfl, _, _, _, true, rfl, rfl, by rfl, _, rfl, nofun, fun _ => ?_⟩
  refine ⟨_, rfl, _, z.rooms, rfl, by show some (rgM z.rooms z.roomD).length = _; rw [rg_length], 1, _, rfl, rfl, _, rfl, fun _ => ⟨_, 100, rfl, rfl, _, rfl, fun _ => ?_, fun e => ?_⟩, fun e => ?_⟩
  · refine ⟨_, rfl, _, rfl, ?_⟩
    refine lc_pure (ys := List.range z.rooms) (enc := z.roomD) (f := fun _ => some (.bl true)) (by rw [List.length_range, sizeLine_eq]; omega) (fun r hr m' Q _ hq => ?_) ?_
    · refine ⟨fun _ => ?_, nofun⟩
      refine ⟨_, rfl, _, rfl, _, rfl, _, rfl, _, z.rooms, rfl, by show some (rgM z.rooms z.roomD).length = _; rw [rg_length], rfl, _, ⟨z, r, ok, rfl, rfl⟩, hq⟩
    · refine ⟨_, List.replicate z.rooms true, rfl, ?_, _, SubM.refl _, ?_⟩
      · show D.lst _ = D.lst _
        congr 1
        rw [List.map_replicate]
        refine List.eq_replicate_iff.mpr ⟨?_, fun b hb => ?_⟩
        · rw [show (fun _ : Nat => some (D.bl true)) = some ∘ (fun _ => D.bl true) from rfl, List.filterMap_eq_map, List.length_map, List.length_range]
        · obtain ⟨_, _, e⟩ := List.mem_filterMap.mp hb
          exact (Option.some.inj e).symm
      · have e : (List.replicate z.rooms true).all id = true := List.all_eq_true.mpr fun b hb => (List.mem_replicate.mp hb).2
        rw [e]; exact h
  · rw [decide_eq_true (show ((z.rooms : Nat) : Int) ≤ 100 by omega)] at e
    cases e
  · rw [decide_eq_true (show (1 : Int) ≤ (z.rooms : Nat) by omega)] at e
    cases e

abbrev st_need_saying : Stmt := topS 17
theorem sc_need_saying : FnScope ["thing"] ["thing"] (defScope st_need_saying) := ⟨rfl, rfl, rfl, by decide +kernel, rfl, by decide +kernel, by decide +kernel⟩
def sp_need_saying : DSp := pureS 1 fun ds d => ∃ s, Say.Ok s ∧ ds = [s.enc] ∧ d = .non
theorem ok_need_saying {f : Addr} {fd : FuncData} (F : Fun K "need_saying" "need_saying" st_need_saying f fd) (T : Txt mg) (G_is_saying : Fd P w K mg base 4 "is_saying" ["thing"] sp_is_saying) : FnOk P w K mg base CX0 5 f fd ["thing"] (spD K sp_need_saying) := by
  refine fn_d F sc_need_saying (fun _ _ _ h => h.1) fun cdv A outer s H E hr => ⟨_, (qss_one (qs_if (qt_not (qt_val (q_fd G_is_saying (hr.mono (by decide)) (by rfl) (qa_cons (qv 0) qa_nil))))
 (qss_one qs_never)
 qss_nil)), fun ds m Kd h => ?_⟩
  obtain ⟨_, _, ⟨z, ok, rfl, rfl⟩, h⟩ := h
  exact ⟨_, rfl, rfl, _, ⟨z, ok, rfl, rfl⟩, _, rfl, nofun, fun _ => ⟨_, SubM.refl _, h⟩⟩
end
end MW

end
section
set_option Elab.async false
set_option linter.all false
set_option maxRecDepth 100000
set_option pp.maxSteps 400
/-! MwB: keeping/prices. -/
namespace MW
open PySem PySem.Spec PyProof.Rows L2
theorem it1 {b : Bool} {a c : Prop} (hb : b = true) (h : a) : (b = true → a) ∧ (b = false → c) := ⟨fun _ => h, fun z => absurd (hb.symm.trans z) (by decide)⟩
theorem it0 {b : Bool} {a c : Prop} (hb : b = false) (h : c) : (b = true → a) ∧ (b = false → c) := ⟨fun z => absurd (z.symm.trans hb) (by decide), fun _ => h⟩
theorem en_rg {n : Nat} {f : Nat → D} : enD (rgM n f) = (List.range n).map fun i => .tup [nD i, f i] := by
  unfold enD rgM
  refine List.ext_getElem (by simp) fun i h1 h2 => ?_
  simp
theorem decT {p : Prop} [Decidable p] (h : p) : decide p = true := decide_eq_true h
theorem decF {p : Prop} [Decidable p] (h : ¬ p) : decide p = false := decide_eq_false h
theorem all_true {α : Type} {l : List α} {p : α → Bool} (h : ∀ x ∈ l, p x = true) : (l.map p).all id = true := by
  rw [List.all_map]; exact List.all_eq_true.mpr h
theorem bls {α : Type} {l : List α} {p : α → Bool} {m : Mem} : look m (.lst (l.map fun x => D.bl (p x))) = .lst ((l.map p).map D.bl) := by rw [List.map_map]; rfl
theorem eqD_nat (a b : Nat) : eqD (.int (a : Nat)) (.int (b : Nat)) = decide (a = b) := by
  rw [eqD_int]
  by_cases h : a = b
  · subst h; simp
  · rw [decide_eq_false h]; exact beq_eq_false_iff_ne.mpr fun z => h (by omega)
theorem szR (n : Nat) (h : n ≤ 1000) : (List.range n).length ≤ sizeLine := by rw [List.length_range, sizeLine_eq]; omega
section
variable {P : Program} {w : World} {K : PySem.W.Frag} {mg : Str → Option Value} {base : Heap}

abbrev st_is_price : Stmt := topS 20
theorem sc_is_price : FnScope ["thing", "own"] ["thing", "own"] (defScope st_is_price) := ⟨rfl, rfl, rfl, by decide +kernel, rfl, by decide +kernel, by decide +kernel⟩
def sp_is_price : DSp := pureS 2 fun ds d => ∃ p b, ds = [encO p, .bl b] ∧ (b = true → p = some 0) ∧ (b = false → ∀ q, p = some q → 1 ≤ q ∧ q ≤ 99) ∧ d = .bl true
theorem ok_is_price {f : Addr} {fd : FuncData} (F : Fun K "is_price" "is_price" st_is_price f fd) (T : Txt mg) (G_is_whole : Fd P w K mg base 1 "is_whole" ["thing"] sp_is_whole) : FnOk P w K mg base CX0 2 f fd ["thing", "own"] (spD K sp_is_price) := by
  refine fn_d F sc_is_price (fun _ _ _ h => h.1) fun cdv A outer s H E hr => ⟨_, (qss_cons (qs_if (qt_val (qv 1))
 (qss_one (qs_ret (q_and (q_fd G_is_whole (hr.mono (by decide)) (by rfl) (qa_cons (qv 0) qa_nil)) (q_one (q_cmp (op_eqD hr.units) liftEq (qv 0) q_int (nomark _))))))
 qss_nil)
 (qss_one (qs_ret (q_or (q_cmp op_isN liftIsN (qv 0) q_non (nomark _)) (q_one (q_and (q_fd G_is_whole (hr.mono (by decide)) (by rfl) (qa_cons (qv 0) qa_nil)) (q_one (q_chain op_le op_le liftB0 liftB0 q_int (qv 0) (q_gi (by rfl) T.gDEAR))))))))), fun ds m Kd h => ?_⟩
  obtain ⟨_, _, ⟨p, b, rfl, h1, h2, rfl⟩, h⟩ := h
  refine ⟨_, rfl, _, rfl, ?_, ?_⟩
  · intro e
    have e := h1 e
    subst e
    refine ⟨_, rfl, rfl, _, ⟨_, rfl, rfl⟩, _, rfl, fun _ => ?_, nofun⟩
    refine ⟨_, rfl, rfl, rfl, m, SubM.refl m, ?_⟩
    show Kd (.bl (eqD (.int 0) (.int 0))) m
    rw [eqD_int]
    exact h
  · intro e
    cases p with
    | none => exact ⟨_, rfl, rfl, .inl ⟨rfl, _, rfl, fun _ => ⟨m, SubM.refl m, h⟩, nofun⟩⟩
    | some q =>
      obtain ⟨q1, q2⟩ := h2 e q rfl
      refine ⟨_, rfl, rfl, .inr (.inl ⟨⟨_, rfl⟩, _, rfl, nofun, fun _ => ?_⟩)⟩
      refine ⟨_, rfl, rfl, _, ⟨_, rfl, rfl⟩, _, rfl, fun _ => ?_, nofun⟩
      refine ⟨_, rfl, 1, _, rfl, rfl, _, rfl, fun e => ⟨_, 99, rfl, rfl, m, SubM.refl m, ?_⟩, fun e => absurd (decT (show (1 : Int) ≤ (q : Nat) by omega)) (by rw [e]; decide)⟩
      show Kd (.bl (decide (((q : Nat) : Int) ≤ 99))) m
      rw [decT (show ((q : Nat) : Int) ≤ 99 by omega)]
      exact h

abbrev st_are_prices : Stmt := topS 21
theorem sc_are_prices : FnScope ["deeds", "thing", "wanted", "row", "given", "price"] ["deeds", "thing"] (defScope st_are_prices) := ⟨rfl, rfl, rfl, by decide +kernel, rfl, by decide +kernel, by decide +kernel⟩
def sp_are_prices : DSp := pureS 2 fun ds d => ∃ n f, Fee.Ok n f ∧ n ≤ 9 ∧ ds = [nD n, Fee.enc n f] ∧ d = .bl true
theorem ok_are_prices {f : Addr} {fd : FuncData} (F : Fun K "are_prices" "are_prices" st_are_prices f fd) (T : Txt mg) (G_is_row : Fd P w K mg base 1 "is_row" ["thing", "many"] sp_is_row) (G_is_price : Fd P w K mg base 2 "is_price" ["thing", "own"] sp_is_price) : FnOk P w K mg base CX0 3 f fd ["deeds", "thing"] (spD K sp_are_prices) := by
  refine fn_d F sc_are_prices (fun _ _ _ h => h.1) fun cdv A outer s H E hr => ⟨_, (qss_cons (qs_if (qt_cmp op_isN liftIsN (qv 1) q_non (nomark _))
 (qss_one (qs_ret q_bl))
 qss_nil)
 (qss_cons (qs_if (qt_not (qt_val (q_fd G_is_row (hr.mono (by decide)) (by rfl) (qa_cons (qv 1) (qa_cons (qv 0) qa_nil)))))
 (qss_one (qs_ret q_bl))
 qss_nil)
 (qss_cons (qs_for (vs := [2, 3]) PassesOwn.never rfl (qi_enum (by rfl) T.enum (qa_cons (qv 1) qa_nil)) (qg_tup (n := 2) rfl (qgs_cons (qg_name (i := 2) sc_are_prices.nd rfl (by first | exact .inl rfl | exact .inr rfl)) (qgs_cons (qg_name (i := 3) sc_are_prices.nd rfl (by first | exact .inl rfl | exact .inr rfl)) qgs_nil)))
 (qss_one (qs_if (PW.pt (qw_or (qt_not (qt_val (q_fd G_is_row (hr.mono (by decide)) (by rfl) (qa_cons (qv 3) (qa_cons (qv 0) qa_nil))))) (qw_or1 (qt_not (qt_val (q_callB (cr_all rfl) liftAll (by rfl) T.all (by decide +kernel) (qa_cons (q_lc (own := [("given", 4), ("price", 5)]) rfl sc_are_prices.nd (qi_enum (by rfl) T.enum (qa_cons (qv 3) qa_nil)) (blkOk_by (by kernel_rfl)) (fun _ _ _ _ _ => (qg_tup (n := 2) rfl (qgs_cons (qg_name (i := 4) sc_are_prices.nd rfl (by first | exact .inl rfl | exact .inr rfl)) (qgs_cons (qg_name (i := 5) sc_are_prices.nd rfl (by first | exact .inl rfl | exact .inr rfl)) qgs_nil)))) (fun _ _ _ _ _ => qts_nil) (fun _ _ _ _ _ => (q_fd G_is_price (hr.mono (by decide)) (by rfl) (qa_cons (qv 5) (qa_cons (q_cmp (op_eqD hr.units) liftEq (qv 4) (qv 2) (nomark _)) qa_nil))))) qa_nil)))))))
 (qss_one (qs_ret q_bl))
 qss_nil)))
 (qss_one (qs_ret q_bl))))), fun ds m Kd h => ?_⟩
  obtain ⟨_, _, ⟨n, f, ok, hn, rfl, rfl⟩, h⟩ := h
  cases f with
  | none => exact ⟨_, rfl, rfl, .inl ⟨rfl, _, rfl, fun _ => ⟨m, SubM.refl m, h⟩, nofun⟩⟩
  | some c =>
    refine ⟨_, rfl, rfl, .inr (.inr ⟨⟨_, rfl⟩, _, rfl, nofun, fun _ => ?_⟩)⟩
    refine ⟨_, rfl, _, rfl, rfl, _, ⟨rgM n (feeRow n c), by rw [rg_length]; rfl, rfl⟩, _, rfl, nofun, fun _ => ?_⟩
    refine ⟨_, rfl, _, rfl, ?_⟩
    rw [en_rg]
    refine for_T (fun i δ m' => m' = m ∧ ∃ x y u v, δ = [some (nD n), some (Fee.enc n (some c)), x, y, u, v]) ⟨rfl, none, none, none, none, rfl⟩ ?_ ?_
    · rintro i y δ m' hy ⟨rfl, x1, x2, x3, x4, rfl⟩
      have hi : y < n := List.mem_range.mp (List.mem_of_getElem? hy)
      refine ⟨_, rfl, rfl, _, _, rfl, _, _, rfl, rfl, ?_⟩
      refine ⟨_, rfl, _, rfl, rfl, _, ⟨rgM n fun g => encO (c y g), by rw [rg_length], rfl⟩, _, rfl, nofun, fun _ => ?_⟩
      refine ⟨_, rfl, _, rfl, ?_⟩
      rw [en_rg]
      refine lc_map (g := fun _ => .bl true) (szR n (by omega)) (fun g hg m2 Q N sm hq => ?_) ?_
      · have hg : g < n := List.mem_range.mp hg
        refine ⟨_, rfl, rfl, _, _, rfl, _, _, rfl, rfl, fun _ => ?_, nofun⟩
        refine ⟨_, rfl, _, rfl, _, rfl, rfl, rfl, rfl, _, ⟨c y g, _, rfl, ?_, ?_, rfl⟩, hq⟩
        · intro e
          rw [eqD_nat] at e
          have e : g = y := of_decide_eq_true e
          rw [e]
          exact ok.self y
        · intro e q eq
          rw [eqD_nat] at e
          have e : ¬ g = y := of_decide_eq_false e
          have := ok.other y g q (fun z => e z.symm) eq
          omega
      · refine ⟨_, (List.range n).map fun _ => true, rfl, bls (p := fun _ => true), ?_⟩
        rw [all_true fun _ _ => rfl]
        refine ⟨_, rfl, nofun, fun _ => ⟨rfl, _, _, _, _, rfl⟩⟩
    · rintro δ m' ⟨rfl, x1, x2, x3, x4, rfl⟩
      exact ⟨_, SubM.refl _, h⟩

abbrev st_need_prices : Stmt := topS 22
theorem sc_need_prices : FnScope ["deeds", "prices"] ["deeds", "prices"] (defScope st_need_prices) := ⟨rfl, rfl, rfl, by decide +kernel, rfl, by decide +kernel, by decide +kernel⟩
def sp_need_prices : DSp := pureS 2 fun ds d => ∃ n f, Fee.Ok n f ∧ n ≤ 9 ∧ ds = [nD n, Fee.enc n f] ∧ d = .non
theorem ok_need_prices {f : Addr} {fd : FuncData} (F : Fun K "need_prices" "need_prices" st_need_prices f fd) (T : Txt mg) (G_are_prices : Fd P w K mg base 3 "are_prices" ["deeds", "thing"] sp_are_prices) : FnOk P w K mg base CX0 4 f fd ["deeds", "prices"] (spD K sp_need_prices) := by
  refine fn_d F sc_need_prices (fun _ _ _ h => h.1) fun cdv A outer s H E hr => ⟨_, (qss_one (qs_if (qt_not (qt_val (q_fd G_are_prices (hr.mono (by decide)) (by rfl) (qa_cons (qv 0) (qa_cons (qv 1) qa_nil)))))
 (qss_one qs_never)
 qss_nil)), fun ds m Kd h => ?_⟩
  obtain ⟨_, _, ⟨n, f, ok, hn, rfl, rfl⟩, h⟩ := h
  exact ⟨_, rfl, _, rfl, rfl, _, ⟨n, f, ok, hn, rfl, rfl⟩, _, rfl, nofun, fun _ => ⟨_, SubM.refl _, h⟩⟩

abbrev st_cost : Stmt := topS 23
theorem sc_cost : FnScope ["prices", "wanted", "given"] ["prices", "wanted", "given"] (defScope st_cost) := ⟨rfl, rfl, rfl, by decide +kernel, rfl, by decide +kernel, by decide +kernel⟩
def sp_cost : DSp := pureS 3 fun ds d => ∃ n f w g, w < n ∧ g < n ∧ ds = [Fee.enc n f, nD w, nD g] ∧ d = encO (f.cost w g)
theorem ok_cost {f : Addr} {fd : FuncData} (F : Fun K "cost" "cost" st_cost f fd) (T : Txt mg)  : FnOk P w K mg base CX0 1 f fd ["prices", "wanted", "given"] (spD K sp_cost) := by
  refine fn_d F sc_cost (fun _ _ _ h => h.1) fun cdv A outer s H E hr => ⟨_, (qss_cons (qs_if (qt_cmp op_isN liftIsN (qv 0) q_non (nomark _))
 (qss_one (qs_ret (q_ifExp (qt_cmp (op_eqD hr.units) liftEq (qv 2) (qv 1) (nomark _)) q_int q_int)))
 qss_nil)
 (qss_one (qs_ret (q_ix (q_ix (qv 0) (qv 1)) (qv 2))))), fun ds m Kd h => ?_⟩
  obtain ⟨_, _, ⟨n, f, w0, g0, hw, hg, rfl, rfl⟩, h⟩ := h
  cases f with
  | none =>
    refine ⟨_, rfl, rfl, .inl ⟨rfl, _, rfl, fun _ => ?_, nofun⟩⟩
    refine ⟨_, rfl, _, rfl, rfl, rfl, _, rfl, fun e => ⟨m, SubM.refl m, ?_⟩, fun e => ⟨m, SubM.refl m, ?_⟩⟩
    · rw [eqD_nat] at e
      have e : g0 = w0 := of_decide_eq_true e
      have z : Fee.cost none w0 g0 = some 0 := if_pos e
      rw [z] at h
      exact h
    · rw [eqD_nat] at e
      have e : ¬ g0 = w0 := of_decide_eq_false e
      have z : Fee.cost none w0 g0 = some 1 := if_neg e
      rw [z] at h
      exact h
  | some c =>
    refine ⟨_, rfl, rfl, .inr (.inr ⟨⟨_, rfl⟩, _, rfl, nofun, fun _ => ?_⟩)⟩
    exact ⟨_, rfl, _, rfl, _, _, _, rfl, rfl, at_rg hw, _, rfl, _, _, _, rfl, rfl, at_rg hg, m, SubM.refl m, h⟩

/-- the answers to a deed -/
def Fee.ans (f : Fee) (n w : Nat) : List Nat := (List.range n).filter fun g => (f.cost w g).isSome
abbrev st_answers_to : Stmt := topS 24
theorem sc_answers_to : FnScope ["deeds", "wanted", "prices", "given"] ["deeds", "wanted", "prices"] (defScope st_answers_to) := ⟨rfl, rfl, rfl, by decide +kernel, rfl, by decide +kernel, by decide +kernel⟩
def sp_answers_to : DSp := pureS 3 fun ds d => ∃ n f w, w < n ∧ n ≤ 9 ∧ ds = [nD n, nD w, Fee.enc n f] ∧ d = .lst ((f.ans n w).map nD)
theorem ok_answers_to {f : Addr} {fd : FuncData} (F : Fun K "answers_to" "answers_to" st_answers_to f fd) (T : Txt mg) (G_cost : Fd P w K mg base 1 "cost" ["prices", "wanted", "given"] sp_cost) : FnOk P w K mg base CX0 2 f fd ["deeds", "wanted", "prices"] (spD K sp_answers_to) := by
  refine fn_d F sc_answers_to (fun _ _ _ h => h.1) fun cdv A outer s H E hr => ⟨_, (qss_one (qs_ret (q_lc (own := [("given", 3)]) rfl sc_answers_to.nd (qi_range (by rfl) T.rng (qa_cons (qv 0) qa_nil)) (blkOk_by (by kernel_rfl)) (fun _ _ _ _ _ => (qg_name (i := 3) sc_answers_to.nd rfl (by first | exact .inl rfl | exact .inr rfl))) (fun _ _ _ _ _ => (qts_one (qt_cmp op_notN liftNotN (q_fd G_cost (hr.mono (by decide)) (by rfl) (qa_cons (qv 2) (qa_cons (qv 1) (qa_cons (qv 3) qa_nil)))) q_non (nomark _)))) (fun _ _ _ _ _ => (qv 3))))), fun ds m Kd h => ?_⟩
  obtain ⟨_, _, ⟨n, f, w0, hw, hn, rfl, rfl⟩, h⟩ := h
  refine ⟨_, rfl, _, rfl, by omega, by omega, ?_⟩
  rw [rg0]
  refine lc_filt (p := fun g => (f.cost w0 g).isSome) (g := nD) (by rw [Int.toNat_natCast]; exact szR n (by omega)) (fun g hg m2 Q N sm hq hn' => ?_) ?_
  · rw [Int.toNat_natCast] at hg
    have hg : g < n := List.mem_range.mp hg
    refine ⟨_, rfl, _, rfl, _, rfl, rfl, _, ⟨n, f, w0, g, hw, hg, rfl, rfl⟩, ?_⟩
    cases e : f.cost w0 g with
    | none => exact ⟨rfl, .inl ⟨rfl, _, rfl, nofun, fun _ => hn' (by rw [e]; rfl)⟩⟩
    | some q => exact ⟨rfl, .inr (.inl ⟨⟨_, rfl⟩, _, rfl, fun _ => ⟨_, rfl, hq (by rw [e]; rfl)⟩, nofun⟩)⟩
  · rw [Int.toNat_natCast]
    exact ⟨m, SubM.refl m, h⟩
end
end MW

end
section
set_option Elab.async false
set_option linter.all false
set_option maxRecDepth 100000
/-! MwRel: comprehensions whose values are told by a relation; dicts by their keys. -/
namespace MW
open PySem PySem.Spec PyProof.Rows L2
theorem take_succ {α : Type} {l : List α} {i : Nat} {y : α} (e : l[i]? = some y) : l.take (i + 1) = l.take i ++ [y] := by rw [List.take_add_one, e]; rfl
theorem dc_rel {α : Type} {ys : List α} {enc : α → D} {k : α → Int} {Rl : α → D → Prop} {vs : List Nat} {G : TDG} {tk tv : TD} {δ : Sl} {m1 : Mem} {Kd : D → Mem → Prop} (hsz : ys.length ≤ sizeLine) (hnd : (ys.map k).Nodup)
    (turn : ∀ y ∈ ys, ∀ (m : Mem) (Q : Int → D → Mem → Prop) (N : Mem → Prop), SubM m1 m → (∀ d, Rl y d → Q (k y) d m) → G (enc y) (wipeD δ vs) m fun δ' m' => tYs δ' m' fun b m2 => (b = true → tk δ' m2 fun u m3 => tv δ' m3 fun d m4 => ∃ k, u = .int k ∧ Q k d m4) ∧ (b = false → N m2))
    (h : ∀ acc : List (α × D), acc.map (·.1) = ys → (∀ x ∈ acc, Rl x.1 x.2) → Kd (.dI (acc.map fun x => (k x.1, x.2))) m1) : DCc vs G tYs tk tv δ Kd (ys.map enc) m1 := by
  refine ⟨by rw [List.length_map]; exact hsz, fun p hp => ⟨fun i m => ∃ acc : List (α × D), acc.map (·.1) = ys.take i ∧ (∀ x ∈ acc, Rl x.1 x.2) ∧ m = updM m1 p (.dI (acc.map fun x => (k x.1, x.2))), ⟨[], rfl, fun x hx => absurd hx (by simp), rfl⟩, fun i x m hx hm => ?_, fun m hm => ?_⟩⟩
  · obtain ⟨acc, ha, hr, hm⟩ := hm
    subst hm
    rw [List.getElem?_map] at hx
    cases e : ys[i]? with
    | none => rw [e] at hx; cases hx
    | some y =>
      rw [e] at hx
      have ex := Option.some.inj hx
      subst ex
      have hi : i < ys.length := (List.getElem?_eq_some_iff.mp e).1
      refine turn y (List.mem_of_getElem? e) (updM m1 p (.dI (acc.map fun x => (k x.1, x.2)))) (fun kk d m4 => ∃ a, m4 p = some (.dI a) ∧ a.length < sizeLine ∧ ∃ acc' : List (α × D), acc'.map (·.1) = ys.take (i + 1) ∧ (∀ x ∈ acc', Rl x.1 x.2) ∧ updM m4 p (.dI (putI a kk d)) = updM m1 p (.dI (acc'.map fun x => (k x.1, x.2)))) (fun m2 => ∃ acc' : List (α × D), acc'.map (·.1) = ys.take (i + 1) ∧ (∀ x ∈ acc', Rl x.1 x.2) ∧ m2 = updM m1 p (.dI (acc'.map fun x => (k x.1, x.2)))) (SubM.new hp) fun d hd => ?_
      have hl : acc.length = (ys.take i).length := by rw [← ha, List.length_map]
      refine ⟨_, updM_same, by rw [List.length_map, hl, List.length_take]; omega, acc ++ [(y, d)], by rw [List.map_append, ha, take_succ e]; rfl, fun x hx => ?_, ?_⟩
      · rcases List.mem_append.mp hx with hx | hx
        · exact hr x hx
        · rw [List.mem_singleton.mp hx]; exact hd
      · rw [updM_updM, putI_new, List.map_append]
        · rfl
        · rw [List.map_map]
          intro z
          obtain ⟨x, hx, ex⟩ := List.mem_map.mp z
          have hx2 : x.1 ∈ ys.take i := by rw [← ha]; exact List.mem_map.mpr ⟨x, hx, rfl⟩
          have ed : ys = ys.take i ++ (y :: ys.drop (i + 1)) := by
            have e3 := List.drop_eq_getElem_cons hi
            rw [(List.getElem?_eq_some_iff.mp e).2] at e3
            rw [← e3, List.take_append_drop]
          rw [ed, List.map_append, List.map_cons] at hnd
          exact (List.nodup_append.mp hnd).2.2 (k x.1) (List.mem_map.mpr ⟨_, hx2, rfl⟩) (k y) (List.mem_cons_self ..) ex
  · rw [List.length_map] at hm
    obtain ⟨acc, ha, hr, hm⟩ := hm
    rw [List.take_length] at ha
    subst hm
    exact ⟨_, updM_same, by rw [delM_updM hp]; exact h acc ha hr⟩
/-- .. with a test -/
theorem dc_relf {α : Type} {ys : List α} {enc : α → D} {k : α → Int} {pt : α → Bool} {Rl : α → D → Prop} {vs : List Nat} {G : TDG} {tt : TDT} {tk tv : TD} {δ : Sl} {m1 : Mem} {Kd : D → Mem → Prop} (hsz : ys.length ≤ sizeLine) (hnd : (ys.map k).Nodup)
    (turn : ∀ y ∈ ys, ∀ (m : Mem) (Q : Int → D → Mem → Prop) (N : Mem → Prop), SubM m1 m → (pt y = true → ∀ d, Rl y d → Q (k y) d m) → (pt y = false → N m) → G (enc y) (wipeD δ vs) m fun δ' m' => tt δ' m' fun b m2 => (b = true → tk δ' m2 fun u m3 => tv δ' m3 fun d m4 => ∃ k, u = .int k ∧ Q k d m4) ∧ (b = false → N m2))
    (h : ∀ acc : List (α × D), acc.map (·.1) = ys.filter pt → (∀ x ∈ acc, Rl x.1 x.2) → Kd (.dI (acc.map fun x => (k x.1, x.2))) m1) : DCc vs G tt tk tv δ Kd (ys.map enc) m1 := by
  refine ⟨by rw [List.length_map]; exact hsz, fun p hp => ⟨fun i m => ∃ acc : List (α × D), acc.map (·.1) = (ys.take i).filter pt ∧ (∀ x ∈ acc, Rl x.1 x.2) ∧ m = updM m1 p (.dI (acc.map fun x => (k x.1, x.2))), ⟨[], rfl, fun x hx => absurd hx (by simp), rfl⟩, fun i x m hx hm => ?_, fun m hm => ?_⟩⟩
  · obtain ⟨acc, ha, hr, hm⟩ := hm
    subst hm
    rw [List.getElem?_map] at hx
    cases e : ys[i]? with
    | none => rw [e] at hx; cases hx
    | some y =>
      rw [e] at hx
      have ex := Option.some.inj hx
      subst ex
      have hi : i < ys.length := (List.getElem?_eq_some_iff.mp e).1
      refine turn y (List.mem_of_getElem? e) (updM m1 p (.dI (acc.map fun x => (k x.1, x.2)))) (fun kk d m4 => ∃ a, m4 p = some (.dI a) ∧ a.length < sizeLine ∧ ∃ acc' : List (α × D), acc'.map (·.1) = (ys.take (i + 1)).filter pt ∧ (∀ x ∈ acc', Rl x.1 x.2) ∧ updM m4 p (.dI (putI a kk d)) = updM m1 p (.dI (acc'.map fun x => (k x.1, x.2)))) (fun m2 => ∃ acc' : List (α × D), acc'.map (·.1) = (ys.take (i + 1)).filter pt ∧ (∀ x ∈ acc', Rl x.1 x.2) ∧ m2 = updM m1 p (.dI (acc'.map fun x => (k x.1, x.2)))) (SubM.new hp) (fun hpt d hd => ?_) (fun hpt => ⟨acc, ?_, hr, rfl⟩)
      · have hl : acc.length ≤ (ys.take i).length := by rw [← List.length_map (f := fun x : α × D => x.1), ha]; exact List.length_filter_le _ _
        rw [List.length_take] at hl
        refine ⟨_, updM_same, by rw [List.length_map]; omega, acc ++ [(y, d)], ?_, fun x hx => ?_, ?_⟩
        · rw [List.map_append, ha, take_succ e, List.filter_append, List.filter_cons, if_pos hpt]; rfl
        · rcases List.mem_append.mp hx with hx | hx
          · exact hr x hx
          · rw [List.mem_singleton.mp hx]; exact hd
        · rw [updM_updM, putI_new, List.map_append]
          · rfl
          · rw [List.map_map]
            intro z
            obtain ⟨x, hx, ex⟩ := List.mem_map.mp z
            have hx2 : x.1 ∈ (ys.take i).filter pt := by rw [← ha]; exact List.mem_map.mpr ⟨x, hx, rfl⟩
            have hx3 := (List.mem_filter.mp hx2).1
            have ed : ys = ys.take i ++ (y :: ys.drop (i + 1)) := by
              have e3 := List.drop_eq_getElem_cons hi
              rw [(List.getElem?_eq_some_iff.mp e).2] at e3
              rw [← e3, List.take_append_drop]
            rw [ed, List.map_append, List.map_cons] at hnd
            exact (List.nodup_append.mp hnd).2.2 (k x.1) (List.mem_map.mpr ⟨_, hx3, rfl⟩) (k y) (List.mem_cons_self ..) ex
      · rw [ha, take_succ e, List.filter_append, List.filter_cons, if_neg (by rw [hpt]; exact Bool.false_ne_true)]
        simp
  · rw [List.length_map] at hm
    obtain ⟨acc, ha, hr, hm⟩ := hm
    rw [List.take_length] at ha
    subst hm
    exact ⟨_, updM_same, by rw [delM_updM hp]; exact h acc ha hr⟩
/-- a statement before which a cell is frozen for good -/
def tSealS (j : Nat) (T : TDS) : TDS := fun DD δ m => ∃ p c, δ[j]? = some (some (.ref p)) ∧ m p = some c ∧ notTab c ∧ T DD (δ.set j (some c)) (delM m p)
theorem qs_sealS {X : Cx} {st : Stmt} {T : TDS} (j : Nat) (h : QS X st T) : QS X st (tSealS j T) := ⟨fun pins s σ H D I ⟨δ, m, DD, g, ⟨p, c, hj, hp, nt, hq⟩, E⟩ => by
  obtain ⟨u, hu, ns, mu, hr⟩ := cell_frz (g.mem p c hp) nt
  obtain ⟨v, ej, rj⟩ := g.sl.get hj
  cases rj
  obtain ⟨od, I2⟩ := I.lock hu mu
  have kp : Keep H (upd H p (.frz od u)) := Keep.over hu ns
  exact h.run pins s σ _ D I2 ⟨_, delM m p, DD, ⟨g.mem.drop hp, (g.sl.keep kp).setD (hr od) ej⟩, hq, E.keep kp⟩⟩
/-! ### keys -/
abbrev keyI (kvs : List (Int × D)) : List Int := kvs.map (·.1)
abbrev keyP (kvs : List ((Int × Int) × D)) : List (Int × Int) := kvs.map (·.1)
theorem getI_some {kvs : List (Int × D)} {k : Int} : (getI kvs k).isSome = decide (k ∈ keyI kvs) := by
  unfold getI keyI
  induction kvs with
  | nil => simp
  | cons x l ih =>
    rw [List.find?_cons]
    by_cases h : x.1 = k
    · simp [h]
    · rw [decide_eq_false h]
      simp only [List.map_cons, List.mem_cons]
      rw [ih]
      by_cases h2 : k ∈ l.map (·.1)
      · simp [h2]
      · simp [h2, Ne.symm h]
theorem getP_some {kvs : List ((Int × Int) × D)} {k : Int × Int} : (getP kvs k).isSome = decide (k ∈ keyP kvs) := by
  unfold getP keyP
  induction kvs with
  | nil => simp
  | cons x l ih =>
    rw [List.find?_cons]
    by_cases h : x.1 = k
    · simp [h]
    · rw [decide_eq_false h]
      simp only [List.map_cons, List.mem_cons]
      rw [ih]
      by_cases h2 : k ∈ l.map (·.1)
      · simp [h2]
      · simp [h2, Ne.symm h]
theorem keyI_map_upd {k : Int} {d : D} : ∀ kvs : List (Int × D), keyI (kvs.map fun kv => if kv.1 = k then (kv.1, d) else kv) = keyI kvs
  | [] => rfl
  | x :: l => by
    have := keyI_map_upd (k := k) (d := d) l
    unfold keyI at this ⊢
    rw [List.map_cons, List.map_cons, this, List.map_cons]
    split <;> rfl
theorem keyP_map_upd {k : Int × Int} {d : D} : ∀ kvs : List ((Int × Int) × D), keyP (kvs.map fun kv => if kv.1 = k then (kv.1, d) else kv) = keyP kvs
  | [] => rfl
  | x :: l => by
    have := keyP_map_upd (k := k) (d := d) l
    unfold keyP at this ⊢
    rw [List.map_cons, List.map_cons, this, List.map_cons]
    split <;> rfl
theorem keyI_put {kvs : List (Int × D)} {k : Int} {d : D} {j : Int} : j ∈ keyI (putI kvs k d) ↔ j = k ∨ j ∈ keyI kvs := by
  by_cases h : k ∈ keyI kvs
  · unfold putI
    rw [if_pos, keyI_map_upd]
    · exact ⟨.inr, fun z => z.elim (fun e => e ▸ h) id⟩
    · obtain ⟨x, hx, e⟩ := List.mem_map.mp h
      exact List.any_eq_true.mpr ⟨x, hx, decide_eq_true e⟩
  · rw [putI_new h]
    unfold keyI
    rw [List.map_append, List.mem_append]
    simp only [List.map_cons, List.map_nil, List.mem_singleton]
    exact Or.comm
theorem len_putI {kvs : List (Int × D)} {k : Int} {d : D} : (putI kvs k d).length ≤ kvs.length + 1 := by
  unfold putI
  split
  · rw [List.length_map]; omega
  · rw [List.length_append]; exact Nat.le_refl _
/-- a dict of plain numbers -/
abbrev natD (l : List Nat) (f : Nat → D) : List (Int × D) := l.map fun r => ((r : Nat), f r)
theorem getI_nat {l : List Nat} {f : Nat → D} {t : Nat} (h : t ∈ l) : getI (natD l f) (t : Nat) = some (f t) := by
  induction l with
  | nil => cases h
  | cons x l ih =>
    unfold getI natD at ih ⊢
    rw [List.map_cons, List.find?_cons]
    by_cases e : x = t
    · subst e; simp
    · have e2 : ¬ ((x : Nat) : Int) = (t : Nat) := fun z => e (by omega)
      rw [decide_eq_false e2]
      exact ih ((List.mem_cons.mp h).resolve_left fun z => e z.symm)
theorem getI_nat_no {l : List Nat} {f : Nat → D} {t : Nat} (h : t ∉ l) : getI (natD l f) (t : Nat) = none := by
  have e := getI_some (kvs := natD l f) (k := (t : Nat))
  cases e2 : getI (natD l f) (t : Nat) with
  | none => rfl
  | some d =>
    rw [e2] at e
    have e := of_decide_eq_true e.symm
    obtain ⟨x, hx, ex⟩ := List.mem_map.mp e
    obtain ⟨y, hy, rfl⟩ := List.mem_map.mp hx
    have : y = t := by have : ((y : Nat) : Int) = (t : Nat) := ex; omega
    exact absurd (this ▸ hy) h
theorem mem_nat {l : List Nat} {f : Nat → D} {t : Nat} : (getI (natD l f) (t : Nat)).isSome = decide (t ∈ l) := by
  by_cases h : t ∈ l
  · rw [getI_nat h, decide_eq_true h]; rfl
  · rw [getI_nat_no h, decide_eq_false h]; rfl
theorem drop_nat {l : List Nat} {f : Nat → D} {t : Nat} : dropI (natD l f) (t : Nat) = natD (l.filter fun x => decide (x ≠ t)) f := by
  unfold dropI natD
  rw [List.filter_map]
  congr 1
  refine List.filter_congr fun x _ => ?_
  show decide (((x : Nat) : Int) ≠ (t : Nat)) = decide (x ≠ t)
  by_cases e : x = t
  · subst e; simp
  · have e2 : ((x : Nat) : Int) ≠ (t : Nat) := fun z => e (by omega)
    rw [decide_eq_true e, decide_eq_true e2]
theorem nat_nd {l : List Nat} (h : l.Nodup) : (l.map fun x => ((x : Nat) : Int)).Nodup := nodup_map (fun a b e => by omega) h
end MW

end
section
set_option Elab.async false
set_option linter.all false
set_option maxRecDepth 100000
set_option pp.maxSteps 400
/-! MwC: keeping/kept. -/
namespace MW
open PySem PySem.Spec PyProof.Rows L2
/-- the answers by which a room comes to one of p -/
def Say.keeps (s : Say) (f : Fee) (p : Nat → Bool) (r g w : Nat) : List Nat := (f.ans s.deeds w).filter fun d => (s.go r g d).any p
def Say.held (s : Say) (f : Fee) (p : Nat → Bool) (r : Nat) : Bool := (List.range s.signs).all fun g => (List.range s.deeds).all fun w => !(s.keeps f p r g w).isEmpty
/-- the value G tells p -/
structure GoodAt (G : D) (p : Nat → Bool) : Prop where
  look : ∀ m, look m G = G
  non : memD G .non = some false
  at_ : ∀ t : Nat, memD G (nD t) = some (p t)
theorem GoodAt.go {G : D} {p : Nat → Bool} (h : GoodAt G p) (m : Mem) (o : Option Nat) : memD (MW.look m G) (encO o) = some (o.any p) := by
  rw [h.look]
  cases o with
  | none => exact h.non
  | some t => exact h.at_ t
theorem ans_lt {f : Fee} {n w d : Nat} (h : d ∈ f.ans n w) : d < n := List.mem_range.mp (List.mem_filter.mp h).1
theorem ans_len {f : Fee} {n w : Nat} : (f.ans n w).length ≤ n := by
  have := List.length_filter_le (fun g => (f.cost w g).isSome) (List.range n)
  rw [List.length_range] at this
  exact this
theorem range_get {n i y : Nat} (h : (List.range n)[i]? = some y) : y = i ∧ i < n := by
  have hi : i < n := by simpa using (List.getElem?_eq_some_iff.mp h).1
  rw [List.getElem?_range hi] at h
  exact ⟨(Option.some.inj h).symm, hi⟩
theorem sz_of {n : Nat} (h : n ≤ 1000) : n ≤ sizeLine := by rw [sizeLine_eq]; omega
theorem okD_nats (l : List Nat) : okD 4 (.lst (l.map nD)) = true := by simp [okD]
theorem eqD_nil (l : List Nat) : eqD (.lst (l.map nD)) (.lst []) = l.isEmpty := by
  cases l <;> simp [eqD, toP, toPs, PyData.eqv, PyData.eqvAll]
def Say.Kept (s : Say) (f : Fee) (r : Nat) : Prop := ∃ p : Nat → Bool, p r = true ∧ ∀ t, p t = true → t < s.rooms ∧ s.held f p t = true
theorem Say.keeps_mono {s : Say} {f : Fee} {p q : Nat → Bool} (h : ∀ t, p t = true → q t = true) {r g w d : Nat} (hd : d ∈ s.keeps f p r g w) : d ∈ s.keeps f q r g w := by
  obtain ⟨h1, h2⟩ := List.mem_filter.mp hd
  refine List.mem_filter.mpr ⟨h1, ?_⟩
  cases e : s.go r g d with
  | none => rw [e] at h2; exact h2
  | some t => rw [e] at h2; exact h t h2
theorem Say.held_mono {s : Say} {f : Fee} {p q : Nat → Bool} (h : ∀ t, p t = true → q t = true) {r : Nat} (hp : s.held f p r = true) : s.held f q r = true := by
  refine List.all_eq_true.mpr fun g hg => List.all_eq_true.mpr fun w hw => ?_
  have := List.all_eq_true.mp (List.all_eq_true.mp hp g hg) w hw
  cases e : s.keeps f p r g w with
  | nil => rw [e] at this; cases this
  | cons a l =>
    have ha : a ∈ s.keeps f q r g w := Say.keeps_mono h (by rw [e]; exact List.mem_cons_self ..)
    cases e2 : s.keeps f q r g w with
    | nil => rw [e2] at ha; cases ha
    | cons b k => rfl
theorem Say.Kept.lt {s : Say} {f : Fee} {r : Nat} (h : s.Kept f r) : r < s.rooms := by obtain ⟨p, h1, h2⟩ := h; exact (h2 r h1).1
theorem Say.Kept.held {s : Say} {f : Fee} {r : Nat} (h : s.Kept f r) {q : Nat → Bool} (hq : ∀ t, s.Kept f t → q t = true) : s.held f q r = true := by
  obtain ⟨p, h1, h2⟩ := h
  exact Say.held_mono (fun t ht => hq t ⟨p, ht, h2⟩) (h2 r h1).2
theorem grd_nat {gs : List Nat} : ((natD gs fun _ => D.bl true).all fun p => grd p.2) = true := List.all_eq_true.mpr fun p hp => by
  obtain ⟨t, _, e⟩ := List.mem_map.mp hp
  subst e
  rfl
theorem goodAt_nat (gs : List Nat) : GoodAt (.dI (natD gs fun _ => .bl true)) (fun t => decide (t ∈ gs)) := ⟨fun _ => rfl, rfl, fun t => congrArg some mem_nat⟩
theorem updM_comm {m : Mem} {p q : Addr} {a b : D} (h : p ≠ q) : updM (updM m p a) q b = updM (updM m q b) p a := by
  funext c
  by_cases e : c = q
  · subst e
    rw [updM_same, updM_ne (Ne.symm h), updM_same]
  · rw [updM_ne e]
    by_cases e2 : c = p
    · subst e2; rw [updM_same, updM_same]
    · rw [updM_ne e2, updM_ne e2, updM_ne e]
section
variable {P : Program} {w : World} {K : PySem.W.Frag} {mg : Str → Option Value} {base : Heap}

abbrev st_keepers : Stmt := topS 26
theorem sc_keepers : FnScope ["saying", "prices", "good", "room", "sign", "wanted", "row", "given"] ["saying", "prices", "good", "room", "sign", "wanted"] (defScope st_keepers) := ⟨rfl, rfl, rfl, by decide +kernel, rfl, by decide +kernel, by decide +kernel⟩
def sp_keepers : DSp := pureS 6 fun ds d => ∃ s f p G r g w, Say.Ok s ∧ GoodAt G p ∧ r < s.rooms ∧ g < s.signs ∧ w < s.deeds ∧ ds = [s.enc, Fee.enc s.deeds f, G, nD r, nD g, nD w] ∧ d = .lst ((s.keeps f p r g w).map nD)
theorem ok_keepers {f : Addr} {fd : FuncData} (F : Fun K "keepers" "keepers" st_keepers f fd) (T : Txt mg) (G_answers_to : Fd P w K mg base 2 "answers_to" ["deeds", "wanted", "prices"] sp_answers_to) : FnOk P w K mg base CX0 3 f fd ["saying", "prices", "good", "room", "sign", "wanted"] (spD K sp_keepers) := by
  refine fn_d F sc_keepers (fun _ _ _ h => h.1) fun cdv A outer s H E hr => ⟨_, (qss_cons (qs_set (i := 6) sc_keepers.nd rfl (by first | exact .inl rfl | exact .inr rfl) (q_ix (q_ix (q_ix (qv 0) q_int) (qv 3)) (qv 4)))
 (qss_one (qs_ret (q_lc (own := [("given", 7)]) rfl sc_keepers.nd (qi_list (q_fd G_answers_to (hr.mono (by decide)) (by rfl) (qa_cons (q_ix (qv 0) q_int) (qa_cons (qv 5) (qa_cons (qv 1) qa_nil))))) (blkOk_by (by kernel_rfl)) (fun _ _ _ _ _ => (qg_name (i := 7) sc_keepers.nd rfl (by first | exact .inl rfl | exact .inr rfl))) (fun _ _ _ _ _ => (qts_one (qt_cmp (op_inA (hu_of hr)) (liftIn false) (q_ix (qv 6) (qv 7)) (qv 2) (by rfl)))) (fun _ _ _ _ _ => (qv 7)))))), fun ds m Kd h => ?_⟩
  obtain ⟨_, _, ⟨z, fe, p, G, r, g, w0, ok, hG, hr0, hg, hw, rfl, rfl⟩, h⟩ := h
  have d2 := ok.d2
  refine ⟨_, rfl, _, _, _, rfl, rfl, rfl, _, rfl, _, _, _, rfl, rfl, at_rg hr0, _, rfl, _, _, _, rfl, rfl, at_rg hg, ?_⟩
  refine ⟨_, rfl, _, _, _, rfl, rfl, rfl, _, rfl, _, rfl, rfl, _, ⟨z.deeds, fe, w0, hw, by omega, rfl, rfl⟩, _, rfl, ?_⟩
  refine lc_filt (p := fun d => (z.go r g d).any p) (g := nD) (sz_of (by have := ans_len (f := fe) (n := z.deeds) (w := w0); omega)) (fun d hd m2 Q N sm hq hn' => ?_) ?_
  · have hd := ans_lt hd
    refine ⟨_, rfl, _, rfl, _, _, _, rfl, rfl, at_rg hd, _, rfl, _, hG.go _ _, _, rfl, fun e => ⟨_, rfl, hq e⟩, fun e => hn' e⟩
  · exact ⟨m, SubM.refl m, h⟩

abbrev st_losing : Stmt := topS 27
theorem sc_losing : FnScope ["saying", "prices", "good", "room", "signs", "deeds", "rooms", "sign", "wanted"] ["saying", "prices", "good", "room"] (defScope st_losing) := ⟨rfl, rfl, rfl, by decide +kernel, rfl, by decide +kernel, by decide +kernel⟩
def sp_losing : DSp := fun ds m Kd => ds.length = 4 ∧ ∃ s f p G r, Say.Ok s ∧ GoodAt G p ∧ r < s.rooms ∧ ds = [s.enc, Fee.enc s.deeds f, G, nD r] ∧ (s.held f p r = true → Kd .non m) ∧ (s.held f p r = false → ∀ g w : Nat, Kd (.tup [nD g, nD w]) m)
theorem ok_losing {f : Addr} {fd : FuncData} (F : Fun K "losing" "losing" st_losing f fd) (T : Txt mg) (G_keepers : Fd P w K mg base 3 "keepers" ["saying", "prices", "good", "room", "sign", "wanted"] sp_keepers) : FnOk P w K mg base CX0 4 f fd ["saying", "prices", "good", "room"] (spD K sp_losing) := by
  refine fn_d F sc_losing (fun _ _ _ h => h.1) fun cdv A outer s H E hr => ⟨_, (qss_cons (qs_asg (vs := [4, 5, 6]) (qv 0) (qg_tup (n := 3) rfl (qgs_cons (qg_name (i := 4) sc_losing.nd rfl (by first | exact .inl rfl | exact .inr rfl)) (qgs_cons (qg_name (i := 5) sc_losing.nd rfl (by first | exact .inl rfl | exact .inr rfl)) (qgs_cons (qg_name (i := 6) sc_losing.nd rfl (by first | exact .inl rfl | exact .inr rfl)) qgs_nil)))))
 (qss_cons (qs_for (vs := [7]) PassesOwn.never rfl (qi_range (by rfl) T.rng (qa_cons (qv 4) qa_nil)) (qg_name (i := 7) sc_losing.nd rfl (by first | exact .inl rfl | exact .inr rfl))
 (qss_one (qs_for (vs := [8]) PassesOwn.never rfl (qi_range (by rfl) T.rng (qa_cons (qv 5) qa_nil)) (qg_name (i := 8) sc_losing.nd rfl (by first | exact .inl rfl | exact .inr rfl))
 (qss_one (qs_if (qt_cmp (op_eqD hr.units) liftEq (q_fd G_keepers (hr.mono (by decide)) (by rfl) (qa_cons (qv 0) (qa_cons (qv 1) (qa_cons (qv 2) (qa_cons (qv 3) (qa_cons (qv 7) (qa_cons (qv 8) qa_nil))))))) (q_lst qa_nil) (nomark _))
 (qss_one (qs_ret (q_tup (qa_cons (qv 7) (qa_cons (qv 8) qa_nil)))))
 qss_nil)))))
 (qss_one (qs_ret q_non)))), fun ds m Kd h => ?_⟩
  obtain ⟨_, z, fe, p, G, r, ok, hG, hr0, rfl, h1, h2⟩ := h
  have d2 := ok.d2
  have s2 := ok.s2
  refine ⟨_, rfl, [nD z.signs, nD z.deeds, z.tableD], rfl, rfl, _, _, rfl, _, _, rfl, _, _, rfl, rfl, ?_⟩
  refine ⟨_, rfl, _, rfl, by omega, by omega, ?_⟩
  rw [rg0]
  refine for_T (fun i δ m' => m' = m ∧ (∃ x y, δ = [some z.enc, some (Fee.enc z.deeds fe), some G, some (nD r), some (nD z.signs), some (nD z.deeds), some z.tableD, x, y]) ∧ ∀ g < i, ∀ w < z.deeds, z.keeps fe p r g w ≠ []) ⟨rfl, ⟨none, none, rfl⟩, fun g hg => absurd hg (Nat.not_lt_zero g)⟩ ?_ ?_
  · rintro i y δ m' hy ⟨rfl, ⟨x1, x2, rfl⟩, hk⟩
    rw [Int.toNat_natCast] at hy
    obtain ⟨rfl, hi⟩ := range_get hy
    refine ⟨_, rfl, _, rfl, by omega, by omega, ?_⟩
    rw [rg0]
    refine for_T (fun j δ m'' => m'' = m' ∧ (∃ x, δ = [some z.enc, some (Fee.enc z.deeds fe), some G, some (nD r), some (nD z.signs), some (nD z.deeds), some z.tableD, some (nD y), x]) ∧ ∀ w < j, z.keeps fe p r y w ≠ []) ⟨rfl, ⟨x2, rfl⟩, fun g hg => absurd hg (Nat.not_lt_zero g)⟩ ?_ ?_
    · rintro j y2 δ m'' hy2 ⟨rfl, ⟨x3, rfl⟩, hk2⟩
      rw [Int.toNat_natCast] at hy2
      obtain ⟨rfl, hj⟩ := range_get hy2
      refine ⟨_, rfl, _, rfl, _, rfl, _, rfl, _, rfl, _, rfl, rfl, _, ⟨z, fe, p, G, r, y, y2, ok, hG, hr0, hi, hj, rfl, rfl⟩, by decide, okD_nats _, rfl, _, rfl, fun e => ?_, fun e => ?_⟩
      · rw [eqD_nil] at e
        refine ⟨_, rfl, _, rfl, sz_of (by decide : 2 ≤ 1000), _, SubM.refl _, h2 ?_ y y2⟩
        refine Bool.eq_false_iff.mpr fun z1 => ?_
        have z2 := List.all_eq_true.mp (List.all_eq_true.mp z1 y (List.mem_range.mpr hi)) y2 (List.mem_range.mpr hj)
        rw [e] at z2
        cases z2
      · rw [eqD_nil] at e
        refine ⟨rfl, ⟨_, rfl⟩, fun w hw => ?_⟩
        by_cases hw2 : w = y2
        · subst hw2
          intro z1
          rw [z1] at e
          cases e
        · exact hk2 w (by omega)
    · rintro δ m'' ⟨rfl, ⟨x3, rfl⟩, hk2⟩
      rw [List.length_range, Int.toNat_natCast] at hk2
      refine ⟨rfl, ⟨_, _, rfl⟩, fun g hg => ?_⟩
      by_cases hg2 : g = y
      · subst hg2; exact hk2
      · exact hk g (by omega)
  · rintro δ m' ⟨rfl, ⟨x1, x2, rfl⟩, hk⟩
    rw [List.length_range, Int.toNat_natCast] at hk
    refine ⟨_, SubM.refl _, h1 ?_⟩
    refine List.all_eq_true.mpr fun g hg => List.all_eq_true.mpr fun w hw => ?_
    have := hk g (List.mem_range.mp hg) w (List.mem_range.mp hw)
    cases e : z.keeps fe p r g w with
    | nil => exact absurd e this
    | cons a l => rfl

abbrev st_lost_in : Stmt := topS 28
theorem sc_lost_in : FnScope ["saying", "prices", "good", "found", "rank", "falling", "whys", "room", "why"] ["saying", "prices"] (defScope st_lost_in) := ⟨rfl, rfl, rfl, by decide +kernel, rfl, by decide +kernel, by decide +kernel⟩
def sp_lost_in : DSp := fun ds m Kd => ds.length = 2 ∧ ∃ s f, Say.Ok s ∧ ds = [s.enc, Fee.enc s.deeds f] ∧ grdM m ∧ ∀ kvs, (∀ t < s.rooms, (((t : Nat) : Int) ∈ keyI kvs ↔ ¬ s.Kept f t)) → Kd (.dI kvs) m
structure LI (s : Say) (f : Fee) (gs : List Nat) (fs : List (Int × D)) : Prop where
  nd : gs.Nodup
  lt : ∀ t ∈ gs, t < s.rooms
  kept : ∀ t, s.Kept f t → t ∈ gs
  keys : ∀ t < s.rooms, (((t : Nat) : Int) ∈ keyI fs ↔ t ∉ gs)
  len : fs.length + gs.length ≤ s.rooms
  grd : (fs.all fun p => grd p.2) = true
abbrev LM (m : Mem) (g q : Addr) (gs : List Nat) (fs : List (Int × D)) : Mem := updM (updM m g (.dI (natD gs fun _ => .bl true))) q (.dI fs)
theorem LM_g {m : Mem} {g q : Addr} {gs : List Nat} {fs : List (Int × D)} (n : g ≠ q) : LM m g q gs fs g = some (.dI (natD gs fun _ => .bl true)) := by
  show updM (updM m g _) q _ g = _
  rw [updM_ne n, updM_same]
theorem LM_q {m : Mem} {g q : Addr} {gs : List Nat} {fs : List (Int × D)} : LM m g q gs fs q = some (.dI fs) := updM_same
theorem LM_o {m : Mem} {g q p : Addr} {gs : List Nat} {fs : List (Int × D)} (n1 : p ≠ g) (n2 : p ≠ q) : LM m g q gs fs p = m p := by
  show updM (updM m g _) q _ p = _
  rw [updM_ne n2, updM_ne n1]
theorem LM_pq {m : Mem} {g q : Addr} {gs : List Nat} {fs fs' : List (Int × D)} : updM (LM m g q gs fs) q (.dI fs') = LM m g q gs fs' := updM_updM
theorem LM_pg {m : Mem} {g q : Addr} {gs gs' : List Nat} {fs : List (Int × D)} (n : g ≠ q) : updM (LM m g q gs fs) g (.dI (natD gs' fun _ => .bl true)) = LM m g q gs' fs := by
  show updM (updM (updM m g _) q _) g _ = updM (updM m g _) q _
  rw [← updM_comm n, updM_updM]
theorem ok_lost_in {f : Addr} {fd : FuncData} (F : Fun K "lost_in" "lost_in" st_lost_in f fd) (T : Txt mg) (G_losing : Fd P w K mg base 4 "losing" ["saying", "prices", "good", "room"] sp_losing) : FnOk P w K mg base CX0 5 f fd ["saying", "prices"] (spD K sp_lost_in) := by
  refine fn_d F sc_lost_in (fun _ _ _ h => h.1) fun cdv A outer s H E hr => ⟨_, (qss_cons (qs_set (i := 2) sc_lost_in.nd rfl (by first | exact .inl rfl | exact .inr rfl) (q_dcCell (own := [("room", 7)]) rfl sc_lost_in.nd (qi_range (by rfl) T.rng (qa_cons (q_callB call_lenA liftLen (by rfl) T.len (by decide +kernel) (qa_cons (q_ix (qv 0) q_int) qa_nil)) qa_nil)) (blkOk_by (by kernel_rfl)) (fun _ _ _ _ _ => (qg_name (i := 7) sc_lost_in.nd rfl (by first | exact .inl rfl | exact .inr rfl))) (fun _ _ _ _ _ => qts_nil) (fun _ _ _ _ _ => (qv 7)) (fun _ _ _ _ _ => q_bl)))
 (qss_cons (qs_set (i := 3) sc_lost_in.nd rfl (by first | exact .inl rfl | exact .inr rfl) q_newI)
 (qss_cons (qs_set (i := 4) sc_lost_in.nd rfl (by first | exact .inl rfl | exact .inr rfl) q_int)
 (qss_cons (qs_set (i := 5) sc_lost_in.nd rfl (by first | exact .inl rfl | exact .inr rfl) q_bl)
 (qss_cons (qs_while PassesOwn.never (qt_val (qv 5))
 (qss_cons (qs_aug (i := 4) ip_add sc_lost_in.nd rfl (by first | exact .inl rfl | exact .inr rfl) q_int)
 (qss_cons (qs_setDcL (j := 2) (i := 6) (own := [("room", 7)]) rfl sc_lost_in.nd rfl rfl (sw_trueD rfl rfl rfl (by decide +kernel)) (qi_keysI (qv 2)) (blkOk_by (by kernel_rfl)) (fun _ _ _ _ _ => (qg_name (i := 7) sc_lost_in.nd rfl (by first | exact .inl rfl | exact .inr rfl))) (fun _ _ _ _ _ => qts_nil) (fun _ _ _ _ _ => (qv 7)) (fun _ _ _ _ _ => (q_fd G_losing (hr.mono (by decide)) (by rfl) (qa_cons (qv 0) (qa_cons (qv 1) (qa_cons (qv 2) (qa_cons (qv 7) qa_nil)))))))
 (qss_cons (qs_set (i := 5) sc_lost_in.nd rfl (by first | exact .inl rfl | exact .inr rfl) q_bl)
 (qss_one (qs_for (vs := [7, 8]) PassesOwn.never rfl (qi_items (qv 6)) (qg_tup (n := 2) rfl (qgs_cons (qg_name (i := 7) sc_lost_in.nd rfl (by first | exact .inl rfl | exact .inr rfl)) (qgs_cons (qg_name (i := 8) sc_lost_in.nd rfl (by first | exact .inl rfl | exact .inr rfl)) qgs_nil)))
 (qss_one (qs_if (qt_cmp op_notN liftNotN (qv 8) q_non (nomark _))
 (qss_cons (qs_dput (hu_of hr) (qv 3) (qv 7) (q_op op_catA liftCat (q_tup (qa_cons (qv 4) qa_nil)) (qv 8)))
 (qss_cons (qs_expr (q_dpop (qv 2) (qv 7) ⟨by rfl, by rfl, by rfl, by rfl⟩))
 (qss_one (qs_set (i := 5) sc_lost_in.nd rfl (by first | exact .inl rfl | exact .inr rfl) q_bl))))
 qss_nil))))))))
 (qss_one (qs_ret (q_seal (qv 3))))))))), fun ds m Kd h => ?_⟩
  obtain ⟨_, z, fe, ok, rfl, gm, h⟩ := h
  have r2 := ok.r2
  refine ⟨_, rfl, _, _, _, rfl, rfl, rfl, _, z.rooms, rfl, by show some (rgM z.rooms z.roomD).length = _; rw [rg_length], _, rfl, by omega, by omega, ?_⟩
  rw [rg0, Int.toNat_natCast]
  refine dc_map (k := fun y => ((y : Nat) : Int)) (g := fun _ => .bl true) (szR z.rooms (by omega)) (nat_nd List.nodup_range) (fun y hy m2 Q N sm hq => ⟨fun _ => ⟨_, rfl, _, rfl, hq⟩, nofun⟩) ?_
  intro g hg q hq
  have nqg : g ≠ q := fun e => by rw [← e, updM_same] at hq; cases hq
  have hq0 : m q = none := by rw [updM_ne (Ne.symm nqg)] at hq; exact hq
  refine ⟨fun n δ m' => ∃ gs fs rk fl x6 x7 x8, δ = [some z.enc, some (Fee.enc z.deeds fe), some (.ref g), some (.ref q), some (.int rk), some (.bl fl), x6, x7, x8] ∧ m' = LM m g q gs fs ∧ LI z fe gs fs ∧ (fl = false → ∀ t ∈ gs, z.held fe (fun t => decide (t ∈ gs)) t = true) ∧ n = gs.length + (if fl = true then 1 else 0),
    ⟨z.rooms + 1, List.range z.rooms, [], 0, true, none, none, none, rfl, rfl, ⟨List.nodup_range, fun t ht => List.mem_range.mp ht, fun t ht => List.mem_range.mpr ht.lt, fun t ht => ⟨nofun, fun e => absurd (List.mem_range.mpr ht) e⟩, by simp, rfl⟩, nofun, by simp⟩, ?_⟩
  rintro n δ m' ⟨gs, fs, rk, fl, x6, x7, x8, rfl, rfl, L, hfl, rfl⟩
  refine ⟨_, rfl, _, rfl, fun e => ?_, fun e => ?_⟩
  · subst e
    have gL : grdM (LM m g q gs fs) := (gm.upd (c := .dI (natD gs fun _ => .bl true)) grd_nat).upd (c := .dI fs) L.grd
    refine ⟨_, rfl, _, rfl, g, natD gs fun _ => .bl true, rfl, LM_g nqg, (by show 6 < 9; decide), ?_⟩
    refine ⟨_, rfl, _, rfl, ?_⟩
    rw [List.map_map]
    refine dc_rel (ys := gs) (enc := nD) (k := fun r => ((r : Nat) : Int)) (Rl := fun r d => (z.held fe (fun t => decide (t ∈ gs)) r = true ∧ d = .non) ∨ (z.held fe (fun t => decide (t ∈ gs)) r = false ∧ ∃ g w : Nat, d = .tup [nD g, nD w])) (sz_of (by have := L.len; omega)) (nat_nd L.nd) (fun r hr m2 Q N sm hq => ⟨fun _ => ?_, nofun⟩) (fun acc ha hrel => ?_)
    · refine ⟨_, rfl, _, rfl, _, rfl, _, rfl, _, rfl, rfl, z, fe, _, _, r, ok, goodAt_nat gs, L.lt r hr, rfl, fun e => ⟨_, rfl, hq _ (.inl ⟨e, rfl⟩)⟩, fun e g w => ⟨_, rfl, hq _ (.inr ⟨e, g, w, rfl⟩)⟩⟩
    · refine ⟨acc.map fun x => (((x.1 : Nat) : Int), x.2), rfl, ?_, gL.del, ?_⟩
      · refine List.all_eq_true.mpr fun p hp => ?_
        obtain ⟨x, hx, e⟩ := List.mem_map.mp hp
        subst e
        rcases hrel x hx with ⟨_, e⟩ | ⟨_, g', w', e⟩ <;> rw [e] <;> rfl
      rw [updM_delM (LM_g nqg)]
      refine ⟨_, rfl, _, rfl, ?_⟩
      rw [List.map_map]
      refine for_T (ys := acc) (enc := fun x => .tup [nD x.1, x.2]) (fun i δ m' => ∃ gs' fs' fl' x7 x8, δ = [some z.enc, some (Fee.enc z.deeds fe), some (.ref g), some (.ref q), some (.int (rk + 1)), some (.bl fl'), some (.dI (acc.map fun x => (((x.1 : Nat) : Int), x.2))), x7, x8] ∧ m' = LM m g q gs' fs' ∧
          gs'.Sublist gs ∧ (∀ t ∈ gs, (t ∈ gs' ↔ ¬ (t ∈ (acc.take i).map (·.1) ∧ z.held fe (fun t => decide (t ∈ gs)) t = false))) ∧ (∀ t < z.rooms, (((t : Nat) : Int) ∈ keyI fs' ↔ t ∉ gs')) ∧ fs'.length + gs'.length ≤ z.rooms ∧ (fs'.all fun p => grd p.2) = true ∧ (fl' = false → gs' = gs) ∧ (fl' = true → gs'.length < gs.length))
        ⟨gs, fs, false, x7, x8, rfl, rfl, List.Sublist.refl _, fun t ht => ⟨fun _ z1 => absurd z1.1 (by simp), fun _ => ht⟩, L.keys, L.len, L.grd, fun _ => rfl, nofun⟩ ?_ ?_
      · rintro i ⟨r, d⟩ δ m' hy ⟨gs', fs', fl', y7, y8, rfl, rfl, h1, h2, h3, h4, h5, h6, h7⟩
        have hi : i < acc.length := (List.getElem?_eq_some_iff.mp hy).1
        have hmem : (r, d) ∈ acc := List.mem_of_getElem? hy
        have hrg : r ∈ gs := by rw [← ha]; exact List.mem_map.mpr ⟨_, hmem, rfl⟩
        have hnot : r ∉ (acc.take i).map (·.1) := fun z1 => by
          have nd := L.nd
          rw [← ha, ← List.take_append_drop i acc, List.map_append, List.drop_eq_getElem_cons hi, (List.getElem?_eq_some_iff.mp hy).2, List.map_cons] at nd
          exact (List.nodup_append.mp nd).2.2 r z1 r (List.mem_cons_self ..) rfl
        have htk : ∀ t, t ∈ (acc.take (i + 1)).map (·.1) ↔ t ∈ (acc.take i).map (·.1) ∨ t = r := fun t => by
          rw [take_succ hy, List.map_append, List.mem_append]
          simp
        refine ⟨_, rfl, rfl, _, _, rfl, _, _, rfl, rfl, ?_⟩
        rcases hrel _ hmem with ⟨hh, e⟩ | ⟨hh, g', w', e⟩
        · have e : d = .non := e
          have hh : z.held fe (fun t => decide (t ∈ gs)) r = true := hh
          subst e
          refine ⟨_, rfl, rfl, .inl ⟨rfl, _, rfl, nofun, fun _ => ⟨gs', fs', fl', _, _, rfl, rfl, h1, fun t ht => ?_, h3, h4, h5, h6, h7⟩⟩⟩
          rw [h2 t ht, htk]
          refine not_congr ⟨fun z1 => ⟨.inl z1.1, z1.2⟩, fun z1 => ⟨z1.1.elim id fun e => ?_, z1.2⟩⟩
          rw [e, hh] at z1
          cases z1.2
        · have e : d = .tup [nD g', nD w'] := e
          have hh : z.held fe (fun t => decide (t ∈ gs)) r = false := hh
          subst e
          have hr' : r ∈ gs' := (h2 r hrg).mpr fun z1 => hnot z1.1
          have hk : ((r : Nat) : Int) ∉ keyI fs' := fun z1 => (h3 r (L.lt r hrg)).mp z1 hr'
          have hl : (gs'.filter fun x => decide (x ≠ r)).length < gs'.length := List.length_filter_lt_length_iff_exists.mpr ⟨r, hr', by simp⟩
          have hpos : 0 < gs'.length := List.length_pos_of_mem hr'
          refine ⟨_, rfl, rfl, .inr (.inr ⟨⟨_, rfl⟩, _, rfl, fun _ => ?_, nofun⟩)⟩
          refine ⟨_, rfl, sz_of (by decide : 1 ≤ 1000), _, rfl, _, _, rfl, rfl, by simp, by simp, sz_of (by decide : 3 ≤ 1000), _, rfl, _, rfl, q, _, .dI (putI fs' (r : Nat) (.tup [.int (rk + 1), nD g', nD w'])), rfl, LM_q, if_pos (by rw [sizeLine_eq]; omega), ?_⟩
          rw [LM_pq]
          refine ⟨_, rfl, g, _, rfl, LM_g nqg, _, rfl, _, (r : Nat), .bl true, LM_g nqg, rfl, getI_nat hr', ?_⟩
          rw [drop_nat, LM_pg nqg]
          refine ⟨_, _, true, _, _, rfl, rfl, List.filter_sublist.trans h1, fun t ht => ?_, fun t ht => ?_, ?_, ?_, nofun, fun _ => ?_⟩
          · rw [List.mem_filter, h2 t ht, htk]
            constructor
            · rintro ⟨a1, a2⟩ ⟨b1, b2⟩
              rcases b1 with b1 | b1
              · exact a1 ⟨b1, b2⟩
              · exact (of_decide_eq_true a2) b1
            · intro a
              refine ⟨fun b => a ⟨.inl b.1, b.2⟩, decT fun b => a ⟨.inr b, by rw [b]; exact hh⟩⟩
          · rw [keyI_put, List.mem_filter, h3 t ht]
            constructor
            · rintro (a | a) ⟨b1, b2⟩
              · exact (of_decide_eq_true b2) (by omega)
              · exact a b1
            · intro a
              by_cases e : t = r
              · exact .inl (by omega)
              · exact .inr fun b => a ⟨b, decT e⟩
          · have := len_putI (kvs := fs') (k := (r : Nat)) (d := .tup [.int (rk + 1), nD g', nD w'])
            omega
          · rw [putI_new hk, List.all_append, h5]
            rfl
          · have := h1.length_le
            omega
      · rintro δ m' ⟨gs', fs', fl', y7, y8, rfl, rfl, h1, h2, h3, h4, h5, h6, h7⟩
        rw [List.take_length, ha] at h2
        have h2' : ∀ t ∈ gs, (t ∈ gs' ↔ z.held fe (fun t => decide (t ∈ gs)) t = true) := fun t ht => by
          rw [h2 t ht]
          constructor
          · intro e
            cases e3 : z.held fe (fun t => decide (t ∈ gs)) t with
            | true => rfl
            | false => exact absurd ⟨ht, e3⟩ e
          · intro e z1
            rw [e] at z1
            cases z1.2
        refine ⟨_, ?_, gs', fs', _, fl', _, _, _, rfl, rfl, ⟨L.nd.sublist h1, fun t ht => L.lt t (h1.mem ht), fun t ht => (h2' t (L.kept t ht)).mpr (ht.held fun t ht => decT (L.kept t ht)), h3, h4, h5⟩, fun e t ht => ?_, rfl⟩
        · cases fl' with
          | false => rw [h6 rfl]; simp
          | true => have := h7 rfl; simp; omega
        · have := (h2' t (h1.mem ht)).mp ht
          rw [h6 e]
          exact this
  · subst e
    have hk : ∀ t, t ∈ gs ↔ z.Kept fe t := fun t => ⟨fun ht => ⟨fun t => decide (t ∈ gs), decT ht, fun t ht => ⟨L.lt t (of_decide_eq_true ht), hfl rfl t (of_decide_eq_true ht)⟩⟩, L.kept t⟩
    refine ⟨_, rfl, q, _, rfl, updM_same, trivial, m, ?_, h fs fun t ht => (L.keys t ht).trans (not_congr (hk t))⟩
    intro p c hp
    have n2 : p ≠ q := fun e => by rw [e, hq0] at hp; cases hp
    have n1 : p ≠ g := fun e => by rw [e, hg] at hp; cases hp
    rw [delM_ne n2, LM_o n1 n2]
    exact hp

noncomputable def Say.keptB (s : Say) (f : Fee) (r : Nat) : Bool := @decide (s.Kept f r) (Classical.propDecidable _)
theorem Say.keptB_iff {s : Say} {f : Fee} {r : Nat} : s.keptB f r = true ↔ s.Kept f r := @decide_eq_true_iff _ (Classical.propDecidable _)
theorem Say.keptB_no {s : Say} {f : Fee} {r : Nat} : s.keptB f r = false ↔ ¬ s.Kept f r := @decide_eq_false_iff_not _ (Classical.propDecidable _)
/-- all kept rooms, rising -/
noncomputable def Say.kepts (s : Say) (f : Fee) : List Nat := (List.range s.rooms).filter (s.keptB f)
theorem Say.mem_kepts {s : Say} {f : Fee} {r : Nat} : r ∈ s.kepts f ↔ s.Kept f r := by
  unfold Say.kepts
  rw [List.mem_filter, Say.keptB_iff, List.mem_range]
  exact ⟨fun h => h.2, fun h => ⟨h.lt, h⟩⟩
theorem Say.kepts_len {s : Say} {f : Fee} : (s.kepts f).length ≤ s.rooms := by
  have := List.length_filter_le (s.keptB f) (List.range s.rooms)
  rw [List.length_range] at this
  exact this
abbrev st_kept_in : Stmt := topS 29
theorem sc_kept_in : FnScope ["saying", "prices", "lost", "room"] ["saying", "prices"] (defScope st_kept_in) := ⟨rfl, rfl, rfl, by decide +kernel, rfl, by decide +kernel, by decide +kernel⟩
def sp_kept_in : DSp := fun ds m Kd => ds.length = 2 ∧ ∃ s f, Say.Ok s ∧ ds = [s.enc, Fee.enc s.deeds f] ∧ grdM m ∧ Kd (.tup ((s.kepts f).map nD)) m
theorem ok_kept_in {f : Addr} {fd : FuncData} (F : Fun K "kept_in" "kept_in" st_kept_in f fd) (T : Txt mg) (G_lost_in : Fd P w K mg base 5 "lost_in" ["saying", "prices"] sp_lost_in) : FnOk P w K mg base CX0 6 f fd ["saying", "prices"] (spD K sp_kept_in) := by
  refine fn_d F sc_kept_in (fun _ _ _ h => h.1) fun cdv A outer s H E hr => ⟨_, (qss_cons (qs_set (i := 2) sc_kept_in.nd rfl (by first | exact .inl rfl | exact .inr rfl) (q_fd G_lost_in (hr.mono (by decide)) (by rfl) (qa_cons (qv 0) (qa_cons (qv 1) qa_nil))))
 (qss_one (qs_ret (q_callTy call_tuple_of liftTup (by rfl) T.tup (by decide +kernel) (qa_cons (q_lc (own := [("room", 3)]) rfl sc_kept_in.nd (qi_range (by rfl) T.rng (qa_cons (q_callB call_lenA liftLen (by rfl) T.len (by decide +kernel) (qa_cons (q_ix (qv 0) q_int) qa_nil)) qa_nil)) (blkOk_by (by kernel_rfl)) (fun _ _ _ _ _ => (qg_name (i := 3) sc_kept_in.nd rfl (by first | exact .inl rfl | exact .inr rfl))) (fun _ _ _ _ _ => (qts_one (qt_cmp (op_notInA (hu_of hr)) (liftIn true) (qv 3) (qv 2) (by rfl)))) (fun _ _ _ _ _ => (qv 3))) qa_nil))))), fun ds m Kd h => ?_⟩
  obtain ⟨_, z, fe, ok, rfl, gm, h⟩ := h
  have r2 := ok.r2
  refine ⟨_, rfl, _, rfl, rfl, z, fe, ok, rfl, gm, fun kvs hk => ?_⟩
  refine ⟨_, rfl, _, _, _, rfl, rfl, rfl, _, z.rooms, rfl, by show some (rgM z.rooms z.roomD).length = _; rw [rg_length], _, rfl, by omega, by omega, ?_⟩
  rw [rg0, Int.toNat_natCast]
  refine lc_filt (p := z.keptB fe) (g := nD) (szR z.rooms (by omega)) (fun r hr m2 Q N sm hq hn => ?_) ?_
  · have hr := List.mem_range.mp hr
    have e0 : memD (.dI kvs) (nD r) = some (!z.keptB fe r) := by
      show some (getI kvs (r : Nat)).isSome = _
      rw [getI_some]
      congr 1
      cases e : z.keptB fe r with
      | true => exact decF fun z1 => (hk r hr).mp z1 (Say.keptB_iff.mp e)
      | false => exact decT ((hk r hr).mpr (Say.keptB_no.mp e))
    refine ⟨_, rfl, _, rfl, _, e0, _, rfl, fun e => ⟨_, rfl, hq (by simpa using e)⟩, fun e => hn (by simpa using e)⟩
  · exact ⟨_, _, rfl, rfl, m, SubM.refl m, h⟩

abbrev st_need_both : Stmt := topS 30
theorem sc_need_both : FnScope ["saying", "prices"] ["saying", "prices"] (defScope st_need_both) := ⟨rfl, rfl, rfl, by decide +kernel, rfl, by decide +kernel, by decide +kernel⟩
def sp_need_both : DSp := pureS 2 fun ds d => ∃ s f, Say.Ok s ∧ Fee.Ok s.deeds f ∧ ds = [s.enc, Fee.enc s.deeds f] ∧ d = .non
theorem ok_need_both {f : Addr} {fd : FuncData} (F : Fun K "need_both" "need_both" st_need_both f fd) (T : Txt mg) (G_need_saying : Fd P w K mg base 5 "need_saying" ["thing"] sp_need_saying) (G_need_prices : Fd P w K mg base 4 "need_prices" ["deeds", "prices"] sp_need_prices) : FnOk P w K mg base CX0 6 f fd ["saying", "prices"] (spD K sp_need_both) := by
  refine fn_d F sc_need_both (fun _ _ _ h => h.1) fun cdv A outer s H E hr => ⟨_, (qss_cons (qs_expr (q_fd G_need_saying (hr.mono (by decide)) (by rfl) (qa_cons (qv 0) qa_nil)))
 (qss_one (qs_expr (q_fd G_need_prices (hr.mono (by decide)) (by rfl) (qa_cons (q_ix (qv 0) q_int) (qa_cons (qv 1) qa_nil)))))), fun ds m Kd h => ?_⟩
  obtain ⟨_, _, ⟨z, fe, ok, fo, rfl, rfl⟩, h⟩ := h
  have d2 := ok.d2
  refine ⟨_, rfl, rfl, _, ⟨z, ok, rfl, rfl⟩, ?_⟩
  exact ⟨_, rfl, _, _, _, rfl, rfl, rfl, _, rfl, rfl, _, ⟨z.deeds, fe, fo, by omega, rfl, rfl⟩, m, SubM.refl m, h⟩
end
end MW

end
section
set_option Elab.async false
set_option linter.all false
set_option maxRecDepth 100000
set_option pp.maxSteps 400
/-! MwPl: pairs, their places, a game of pairs (plain). -/
namespace MW
open PySem PySem.Spec PyProof.Rows L2
abbrev Pr := Nat × Nat
abbrev prN (q : Pr) : D := .tup [nD q.1, nD q.2]
abbrev prK (q : Pr) : Int × Int := ((q.1 : Nat), (q.2 : Nat))
def ansD (a : Nat × Pr) : D := .tup [nD a.1, prN a.2]
theorem prK_inj {a b : Pr} (h : prK a = prK b) : a = b := by
  have h1 : ((a.1 : Nat) : Int) = (b.1 : Nat) := congrArg Prod.fst h
  have h2 : ((a.2 : Nat) : Int) = (b.2 : Nat) := congrArg Prod.snd h
  exact Prod.ext (by omega) (by omega)
def Say.steps (s : Say) (p : Nat → Bool) (a : Nat) : List Pr := (List.range s.signs).flatMap fun g => ((List.range s.deeds).filter fun w => (s.go a g w).any p).map fun w => (g, w)
def Say.anss (s : Say) (f : Fee) (p : Nat → Bool) (q st : Pr) : List (Nat × Pr) := (s.keeps f p q.2 st.1 st.2).map fun d => ((f.cost st.2 d).getD 0 + 1, ((s.go q.1 st.1 st.2).getD 0, (s.go q.2 st.1 d).getD 0))
def Say.asks (s : Say) (f : Fee) (p : Nat → Bool) (q : Pr) : List (List (Nat × Pr)) := if q.1 = q.2 then [[(0, q)]] else (s.steps p q.1).map (s.anss f p q)

theorem nodup_drop1 {n : Nat} : ∀ {l : List Nat}, l.Nodup → l.length ≤ (l.filter fun x => decide (x ≠ n)).length + 1
  | [], _ => Nat.zero_le _
  | x :: l, h => by
    obtain ⟨h1, h2⟩ := List.nodup_cons.mp h
    rw [List.filter_cons]
    by_cases e : x = n
    · subst e
      rw [if_neg (by simp)]
      have : l.filter (fun y => decide (y ≠ x)) = l := List.filter_eq_self.mpr fun y hy => decT fun z => h1 (z ▸ hy)
      rw [this]
      exact Nat.le_refl _
    · rw [if_pos (decT e)]
      have := nodup_drop1 (n := n) h2
      simp only [List.length_cons]
      omega
theorem nodup_len : ∀ {n : Nat} {l : List Nat}, l.Nodup → (∀ x ∈ l, x < n) → l.length ≤ n
  | 0, [], _, _ => Nat.le_refl _
  | 0, x :: l, _, h => absurd (h x (List.mem_cons_self ..)) (Nat.not_lt_zero x)
  | n + 1, l, nd, h => by
    have h1 := nodup_drop1 (n := n) nd
    have h2 := nodup_len (n := n) (l := l.filter fun x => decide (x ≠ n)) (nd.sublist List.filter_sublist) fun x hx => by
      obtain ⟨a, b⟩ := List.mem_filter.mp hx
      have := h x a
      have : x ≠ n := of_decide_eq_true b
      omega
    omega
theorem pairs_len {R : Nat} {l : List Pr} (nd : l.Nodup) (h : ∀ q ∈ l, q.1 < R ∧ q.2 < R) : l.length ≤ R * R := by
  have nd2 : (l.map fun q => q.1 * R + q.2).Nodup := by
    induction l with
    | nil => exact List.nodup_nil
    | cons x l ih =>
      obtain ⟨h1, h2⟩ := List.nodup_cons.mp nd
      rw [List.map_cons]
      refine List.nodup_cons.mpr ⟨fun z => ?_, ih h2 fun q hq => h q (List.mem_cons_of_mem _ hq)⟩
      obtain ⟨y, hy, e⟩ := List.mem_map.mp z
      have a := h x (List.mem_cons_self ..)
      have b := h y (List.mem_cons_of_mem _ hy)
      have e : y.1 * R + y.2 = x.1 * R + x.2 := e
      have hR : 0 < R := by omega
      have e1 : y.1 = x.1 := by
        have p1 : (y.1 * R + y.2) / R = y.1 := by rw [Nat.mul_comm, Nat.mul_add_div hR, Nat.div_eq_of_lt b.2]; omega
        have p2 : (x.1 * R + x.2) / R = x.1 := by rw [Nat.mul_comm, Nat.mul_add_div hR, Nat.div_eq_of_lt a.2]; omega
        rw [← p1, ← p2, e]
      have e2 : y.2 = x.2 := by rw [e1] at e; omega
      exact h1 (Prod.ext e1 e2 ▸ hy)
  have := nodup_len (n := R * R) nd2 fun x hx => by
    obtain ⟨q, hq, e⟩ := List.mem_map.mp hx
    subst e
    have a := h q hq
    have : q.1 * R + R ≤ R * R := by
      have : (q.1 + 1) * R ≤ R * R := Nat.mul_le_mul_right R a.1
      rw [Nat.add_mul] at this
      omega
    show q.1 * R + q.2 < R * R
    omega
  rw [List.length_map] at this
  exact this
/-- the dict of places -/
def idxs (ps : List Pr) : List ((Int × Int) × D) := ps.mapIdx fun i q => (prK q, nD i)
def ins (ps : List Pr) (q : Pr) : List Pr := if q ∈ ps then ps else ps ++ [q]
theorem idxs_len {ps : List Pr} : (idxs ps).length = ps.length := by unfold idxs; rw [List.length_mapIdx]
theorem idxs_key {ps : List Pr} : keyP (idxs ps) = ps.map prK := by
  unfold keyP idxs
  refine List.ext_getElem (by simp) fun i h1 h2 => by simp
theorem mem_prK {ps : List Pr} {q : Pr} : prK q ∈ ps.map prK ↔ q ∈ ps := ⟨fun h => by obtain ⟨x, hx, e⟩ := List.mem_map.mp h; exact prK_inj e ▸ hx, fun h => List.mem_map.mpr ⟨q, h, rfl⟩⟩
theorem idxs_mem {ps : List Pr} {q : Pr} : (getP (idxs ps) (prK q)).isSome = decide (q ∈ ps) := by
  rw [getP_some, idxs_key]
  exact decide_eq_decide.mpr mem_prK
theorem idxs_app {ps : List Pr} {q : Pr} : idxs (ps ++ [q]) = idxs ps ++ [(prK q, nD ps.length)] := by
  unfold idxs
  rw [List.mapIdx_append]
  simp
theorem idxs_put {ps : List Pr} {q : Pr} (h : q ∉ ps) : putP (idxs ps) (prK q) (nD ps.length) = idxs (ps ++ [q]) := by
  rw [putP_new, idxs_app]
  show prK q ∉ keyP (idxs ps)
  rw [idxs_key]
  exact fun z => h (mem_prK.mp z)
theorem getP_app {l l' : List ((Int × Int) × D)} {k : Int × Int} : getP (l ++ l') k = (getP l k).or (getP l' k) := by
  unfold getP
  rw [List.find?_append]
  cases l.find? fun kv => decide (kv.1 = k) <;> rfl
theorem idxs_get : ∀ {ps : List Pr} {q : Pr}, ps.Nodup → q ∈ ps → getP (idxs ps) (prK q) = some (nD (ps.idxOf q)) := by
  intro ps
  generalize hn : ps.length = n
  induction n generalizing ps with
  | zero => intro q _ h; rw [List.eq_nil_of_length_eq_zero hn] at h; cases h
  | succ n ih =>
    intro q nd h
    have hne : ps ≠ [] := fun e => by rw [e] at hn; cases hn
    have e := List.dropLast_concat_getLast hne
    generalize ps.dropLast = l at e
    generalize ps.getLast hne = x at e
    subst e
    rw [List.length_append] at hn
    simp at hn
    have ndl := (List.nodup_append.mp nd).1
    have hx : x ∉ l := fun z => (List.nodup_append.mp nd).2.2 x z x (List.mem_singleton.mpr rfl) rfl
    rw [idxs_app, getP_app]
    by_cases hq : q ∈ l
    · rw [ih hn ndl hq, List.idxOf_append, if_pos hq]
      rfl
    · have hq2 : q = x := by
        rcases List.mem_append.mp h with h | h
        · exact absurd h hq
        · exact List.mem_singleton.mp h
      subst hq2
      have e1 : getP (idxs l) (prK q) = none := by
        have := idxs_mem (ps := l) (q := q)
        rw [decF hq] at this
        cases e : getP (idxs l) (prK q) with
        | none => rfl
        | some d => rw [e] at this; cases this
      rw [e1, List.idxOf_append, if_neg hq]
      unfold getP
      simp
theorem ins_nd {ps : List Pr} {q : Pr} (h : ps.Nodup) : (ins ps q).Nodup := by
  unfold ins
  split
  · exact h
  · rename_i hq
    exact List.nodup_append.mpr ⟨h, by simp, fun a ha b hb e => hq (by rw [List.mem_singleton.mp hb] at e; exact e ▸ ha)⟩
theorem ins_mem {ps : List Pr} {q x : Pr} : x ∈ ins ps q ↔ x = q ∨ x ∈ ps := by
  unfold ins
  split
  · rename_i h
    exact ⟨.inr, fun z => z.elim (fun e => e ▸ h) id⟩
  · rw [List.mem_append, List.mem_singleton]
    exact Or.comm
theorem ins_idx {ps : List Pr} {q x : Pr} (h : x ∈ ps) : (ins ps q).idxOf x = ps.idxOf x := by
  unfold ins
  split
  · rfl
  · rw [List.idxOf_append, if_pos h]
def insAll (ps : List Pr) (l : List Pr) : List Pr := l.foldl ins ps
theorem insAll_nd {l : List Pr} : ∀ {ps : List Pr}, ps.Nodup → (insAll ps l).Nodup := by
  induction l with
  | nil => intro ps h; exact h
  | cons x l ih => intro ps h; exact ih (ps := ins ps x) (ins_nd h)
theorem insAll_mem {l : List Pr} {x : Pr} : ∀ {ps : List Pr}, x ∈ insAll ps l ↔ x ∈ l ∨ x ∈ ps := by
  induction l with
  | nil => intro ps; simp [insAll]
  | cons y l ih =>
    intro ps
    show x ∈ insAll (ins ps y) l ↔ _
    rw [ih, ins_mem, List.mem_cons]
    constructor
    · rintro (a | a | a)
      · exact .inl (.inr a)
      · exact .inl (.inl a)
      · exact .inr a
    · rintro ((a | a) | a)
      · exact .inr (.inl a)
      · exact .inl a
      · exact .inr (.inr a)
theorem insAll_idx {l : List Pr} {x : Pr} : ∀ {ps : List Pr}, x ∈ ps → (insAll ps l).idxOf x = ps.idxOf x := by
  induction l with
  | nil => intro ps _; rfl
  | cons y l ih =>
    intro ps h
    show (insAll (ins ps y) l).idxOf x = _
    rw [ih (ins_mem.mpr (.inr h)), ins_idx h]
theorem insAll_snoc {ps l : List Pr} {x : Pr} : insAll ps (l ++ [x]) = ins (insAll ps l) x := by unfold insAll; rw [List.foldl_append]; rfl
theorem insAll_app {ps l l' : List Pr} : insAll ps (l ++ l') = insAll (insAll ps l) l' := by unfold insAll; rw [List.foldl_append]
theorem ins_pre {ps : List Pr} {q : Pr} : ps <+: ins ps q := by
  unfold ins
  split
  · exact List.prefix_rfl
  · exact List.prefix_append _ _
theorem insAll_pre {l : List Pr} : ∀ {ps : List Pr}, ps <+: insAll ps l := by
  induction l with
  | nil => intro ps; exact List.prefix_rfl
  | cons y l ih => intro ps; exact ins_pre.trans (ih (ps := ins ps y))
/-- an ask, an answer by its place -/
def encA (ps : List Pr) (ask : List (Nat × Pr)) : D := .tup (ask.map fun a => .tup [nD a.1, nD (ps.idxOf a.2)])
theorem encA_ext {ps ps' : List Pr} {ask : List (Nat × Pr)} (h : ∀ a ∈ ask, ps'.idxOf a.2 = ps.idxOf a.2) : encA ps' ask = encA ps ask := by
  unfold encA
  congr 1
  exact List.map_congr_left fun a ha => by rw [h a ha]
end MW

end
section
set_option Elab.async false
set_option linter.all false
set_option maxRecDepth 100000
set_option pp.maxSteps 400
/-! MwD: made/games: asks_of, placed, game_by. -/
namespace MW
open PySem PySem.Spec PyProof.Rows L2 NdefX
section
variable {P : Program} {w : World} {K : PySem.W.Frag} {mg : Str → Option Value} {base : Heap}
theorem updM_self {m : Mem} {p : Addr} {c : D} (h : m p = some c) : updM m p c = m := by
  funext b
  by_cases e : b = p
  · rw [e, updM_same, h]
  · rw [updM_ne e]

abbrev st_placed : Stmt := topS 32
theorem sc_placed : FnScope ["places", "pair"] ["places", "pair"] (defScope st_placed) := ⟨rfl, rfl, rfl, by decide +kernel, rfl, by decide +kernel, by decide +kernel⟩
def sp_placed : DSp := fun ds m Kd => ds.length = 2 ∧ ∃ p ps q, ds = [.ref p, prN q] ∧ m p = some (.dP (idxs ps)) ∧ ps.Nodup ∧ ps.length < 100 ∧ Kd (nD ((ins ps q).idxOf q)) (updM m p (.dP (idxs (ins ps q))))
theorem ok_placed {f : Addr} {fd : FuncData} (F : Fun K "placed" "placed" st_placed f fd) (T : Txt mg)  : FnOk P w K mg base CX0 1 f fd ["places", "pair"] (spD K sp_placed) := by
  refine fn_d F sc_placed (fun _ _ _ h => h.1) fun cdv A outer s H E hr => ⟨_, (qss_cons (qs_if (qt_cmp (op_notInA (hu_of hr)) (liftIn true) (qv 1) (qv 0) (by rfl))
 (qss_cons (qs_if (qt_cmp (op_eqD hr.units) liftEq (q_callB call_lenA liftLen (by rfl) T.len (by decide +kernel) (qa_cons (qv 0) qa_nil)) (q_gi (by rfl) T.gMOST) (nomark _))
 (qss_one qs_never)
 qss_nil)
 (qss_one (qs_dput (hu_of hr) (qv 0) (qv 1) (q_callB call_lenA liftLen (by rfl) T.len (by decide +kernel) (qa_cons (qv 0) qa_nil)))))
 qss_nil)
 (qss_one (qs_ret (q_dget (hu_of hr) (qv 0) (qv 1))))), fun ds m Kd h => ?_⟩
  obtain ⟨_, p, ps, q, rfl, hp, nd, hl, h⟩ := h
  have e0 : memD (look m (.ref p)) (prN q) = some (decide (q ∈ ps)) := by
    show memD ((m p).getD _) _ = _
    rw [hp]
    exact congrArg some idxs_mem
  refine ⟨_, rfl, _, rfl, _, e0, _, rfl, fun e => ?_, fun e => ?_⟩
  · have hq : q ∉ ps := by simpa using e
    have len : lenD (look m (.ref p)) = some ps.length := by
      show lenD ((m p).getD _) = _
      rw [hp]
      exact congrArg some idxs_len
    refine ⟨_, rfl, _, ps.length, rfl, len, rfl, rfl, _, rfl, fun e => ?_, fun _ => ?_⟩
    · have e : eqD (.int (ps.length : Nat)) (.int (100 : Nat)) = true := e
      rw [eqD_nat] at e
      have := of_decide_eq_true e
      omega
    · have hi : ins ps q = ps ++ [q] := if_neg hq
      refine ⟨_, rfl, _, ps.length, rfl, len, _, rfl, _, rfl, p, .dP (idxs ps), .dP (idxs (ps ++ [q])), rfl, hp, ?_, ?_⟩
      · show (if (idxs ps).length < sizeLine then some (D.dP (putP (idxs ps) (prK q) _)) else none) = _
        rw [if_pos (by rw [idxs_len, sizeLine_eq]; omega), idxs_put hq]
      · refine ⟨_, rfl, _, rfl, nD ((ps ++ [q]).idxOf q), ?_, _, SubM.refl _, ?_⟩
        · show getD_ ((updM m p _ p).getD _) _ = _
          rw [updM_same]
          exact idxs_get (hi ▸ ins_nd nd) (by simp)
        · rw [hi] at h
          exact h
  · have hq : q ∈ ps := by simpa using e
    have hi : ins ps q = ps := if_pos hq
    rw [hi, updM_self hp] at h
    refine ⟨_, rfl, _, rfl, _, ?_, _, SubM.refl _, h⟩
    show getD_ ((m p).getD _) _ = _
    rw [hp]
    exact idxs_get nd hq

abbrev st_game_apart : Stmt := topS 34
theorem sc_game_apart : FnScope ["saying", "own", "mended", "prices", "kept", "room", "signs", "deeds", "table", "asks_of", "row"] ["saying", "own", "mended", "prices"] (defScope st_game_apart) := ⟨rfl, rfl, rfl, by decide +kernel, rfl, by decide +kernel, by decide +kernel⟩
abbrev st_asks : Stmt := (defBody st_game_apart).getD 5 (.Pass ⟨0, 0, 0, 0⟩)
theorem sc_asks_of : CScope ["pair", "kept", "prices", "saying", "signs", "table", "one", "other", "asks", "sign", "wanted", "hence", "some", "row", "given"] ["pair"] ["kept", "prices", "saying", "signs", "table"] (C8.fnScope st_asks) := cscope_by (by decide +kernel)
theorem goodAt_kepts (s : Say) (f : Fee) : GoodAt (.tup ((s.kepts f).map nD)) (s.keptB f) where
  look := fun _ => rfl
  non := by
    show (if ((((s.kepts f).map nD).all flatD) && flatD .non) = true then some (((s.kepts f).map nD).any fun z => eqD z .non) else none) = _
    rw [if_pos (by rw [Bool.and_eq_true]; exact ⟨List.all_eq_true.mpr fun x hx => by obtain ⟨t, _, e⟩ := List.mem_map.mp hx; subst e; rfl, rfl⟩)]
    congr 1
    refine Bool.eq_false_iff.mpr fun z => ?_
    obtain ⟨x, hx, e⟩ := List.any_eq_true.mp z
    obtain ⟨t, _, e2⟩ := List.mem_map.mp hx
    subst e2
    rw [eqD_in] at e
    cases e
  at_ := fun t => by
    show (if ((((s.kepts f).map nD).all flatD) && flatD (nD t)) = true then some (((s.kepts f).map nD).any fun z => eqD z (nD t)) else none) = _
    rw [if_pos (by rw [Bool.and_eq_true]; exact ⟨List.all_eq_true.mpr fun x hx => by obtain ⟨t, _, e⟩ := List.mem_map.mp hx; subst e; rfl, rfl⟩)]
    congr 1
    cases e : s.keptB f t with
    | true =>
      refine List.any_eq_true.mpr ⟨nD t, List.mem_map.mpr ⟨t, Say.mem_kepts.mpr (Say.keptB_iff.mp e), rfl⟩, ?_⟩
      rw [eqD_nat]
      exact decT rfl
    | false =>
      refine Bool.eq_false_iff.mpr fun z => ?_
      obtain ⟨x, hx, e3⟩ := List.any_eq_true.mp z
      obtain ⟨u, hu, e2⟩ := List.mem_map.mp hx
      subst e2
      rw [eqD_nat] at e3
      have := of_decide_eq_true e3
      subst this
      exact Say.keptB_no.mp e (Say.mem_kepts.mp hu)
abbrev asksD (l : List (List (Nat × Pr))) : List D := l.map fun ask => .lst (ask.map ansD)
def sp_asks_of : DSc := fun cs ds m Kd => ds.length = 1 ∧ ∃ s f q, Say.Ok s ∧ q.1 < s.rooms ∧ q.2 < s.rooms ∧ cs = [.tup ((s.kepts f).map nD), Fee.enc s.deeds f, s.enc, nD s.signs, s.tableD] ∧ ds = [prN q] ∧ Kd (.lst (asksD (s.asks f (s.keptB f) q))) m
theorem ok_asks {f c : Addr} {cl : List (Str × Addr)} {qual : Str} (T : Txt mg) (G_keepers : Fd P w K mg base 3 "keepers" ["saying", "prices", "good", "room", "sign", "wanted"] sp_keepers) (G_cost : Fd P w K mg base 1 "cost" ["prices", "wanted", "given"] sp_cost) :
    NOk P w K mg base CX0 (3 + 1) f (NF.of st_asks "asks_of" qual cl c) ["pair"] ["kept", "prices", "saying", "signs", "table"] (spC K sp_asks_of) := by
  refine nok_d (N := ["pair", "kept", "prices", "saying", "signs", "table", "one", "other", "asks", "sign", "wanted", "hence", "some", "row", "given"]) sc_asks_of (fun _ _ _ us hl => match us, hl with | [_], _ => rfl) (fun _ _ _ _ h => h.1) fun A outer s H E hr => ⟨_, (qss_cons (qs_asg (vs := [6, 7]) (qv 0) (qg_tup (n := 2) rfl (qgs_cons (qg_name (i := 6) sc_asks_of.nd rfl (by first | exact .inl rfl | exact .inr rfl)) (qgs_cons (qg_name (i := 7) sc_asks_of.nd rfl (by first | exact .inl rfl | exact .inr rfl)) qgs_nil))))
 (qss_cons (qs_if (qt_cmp (op_eqD hr.units) liftEq (qv 6) (qv 7) (nomark _))
 (qss_one (qs_ret (q_lst (qa_cons (q_lst (qa_cons (q_tup (qa_cons q_int (qa_cons (qv 0) qa_nil))) qa_nil)) qa_nil))))
 qss_nil)
 (qss_cons (qs_set (i := 8) sc_asks_of.nd rfl (by first | exact .inl rfl | exact .inr rfl) (q_lstc qa_nil))
 (qss_cons (qs_for (vs := [9]) PassesOwn.never rfl (qi_range (by rfl) T.rng (qa_cons (qv 4) qa_nil)) (qg_name (i := 9) sc_asks_of.nd rfl (by first | exact .inl rfl | exact .inr rfl))
 (qss_one (qs_for (vs := [10, 11]) PassesOwn.never rfl (qi_enum (by rfl) T.enum (qa_cons (q_ix (q_ix (qv 5) (qv 6)) (qv 9)) qa_nil)) (qg_tup (n := 2) rfl (qgs_cons (qg_name (i := 10) sc_asks_of.nd rfl (by first | exact .inl rfl | exact .inr rfl)) (qgs_cons (qg_name (i := 11) sc_asks_of.nd rfl (by first | exact .inl rfl | exact .inr rfl)) qgs_nil)))
 (qss_one (qs_if (qt_cmp (op_inA (hu_of hr)) (liftIn false) (qv 11) (qv 1) (by rfl))
 (qss_cons (qs_set (i := 12) sc_asks_of.nd rfl (by first | exact .inl rfl | exact .inr rfl) (q_fd G_keepers (hr.mono (by decide)) (by rfl) (qa_cons (qv 3) (qa_cons (qv 2) (qa_cons (qv 1) (qa_cons (qv 7) (qa_cons (qv 9) (qa_cons (qv 10) qa_nil))))))))
 (qss_cons (qs_set (i := 13) sc_asks_of.nd rfl (by first | exact .inl rfl | exact .inr rfl) (q_ix (q_ix (qv 5) (qv 7)) (qv 9)))
 (qss_one (qs_expr (q_append (qv 8) (qa_cons (q_lc (own := [("given", 14)]) rfl sc_asks_of.nd (qi_list (qv 12)) (blkOk_by (by kernel_rfl)) (fun _ _ _ _ _ => (qg_name (i := 14) sc_asks_of.nd rfl (by first | exact .inl rfl | exact .inr rfl))) (fun _ _ _ _ _ => qts_nil) (fun _ _ _ _ _ => (q_tup (qa_cons (q_op op_add liftI0 (q_fd G_cost (hr.mono (by decide)) (by rfl) (qa_cons (qv 2) (qa_cons (qv 10) (qa_cons (qv 14) qa_nil)))) q_int) (qa_cons (q_tup (qa_cons (qv 11) (qa_cons (q_ix (qv 13) (qv 14)) qa_nil))) qa_nil))))) qa_nil))))))
 qss_nil)))))
 (qss_one (qs_ret (q_seal (qv 8)))))))), fun cs ds m Kd hcs h => ?_⟩
  obtain ⟨_, z, fe, q, ok, hq1, hq2, rfl, rfl, h⟩ := h
  have s2 := ok.s2
  have d2 := ok.d2
  have hG := goodAt_kepts z fe
  have z2 : 2 ≤ sizeLine := sz_of (by decide)
  have z1 : 1 ≤ sizeLine := sz_of (by decide)
  refine ⟨_, rfl, [nD q.1, nD q.2], rfl, rfl, _, _, rfl, _, _, rfl, rfl, ?_⟩
  refine ⟨_, rfl, _, rfl, rfl, rfl, _, rfl, fun e => ?_, fun e => ?_⟩
  · rw [eqD_nat] at e
    have e := of_decide_eq_true e
    have ea : z.asks fe (z.keptB fe) q = [[(0, q)]] := if_pos e
    rw [ea] at h
    exact ⟨_, rfl, z2, z1, z1, m, SubM.refl m, h⟩
  · rw [eqD_nat] at e
    have e := of_decide_eq_false e
    have ea : z.asks fe (z.keptB fe) q = (z.steps (z.keptB fe) q.1).map (z.anss fe (z.keptB fe) q) := if_neg e
    refine ⟨Nat.zero_le _, fun p hp => ?_⟩
    refine ⟨_, rfl, _, rfl, by omega, by omega, ?_⟩
    rw [rg0, Int.toNat_natCast]
    refine for_T (fun i δ m' => ∃ (l : List (List (Nat × Pr))) (x1 x2 x3 x4 x5 x6 : Option D), l.length ≤ 3 * i ∧ l = (((List.range z.signs).take i).flatMap fun g => ((List.range z.deeds).filter fun w => (z.go q.1 g w).any (z.keptB fe)).map fun w => (g, w)).map (z.anss fe (z.keptB fe) q) ∧ m' = updM m p (.lst (asksD l)) ∧
      δ = [some (prN q), some (.tup ((z.kepts fe).map nD)), some (Fee.enc z.deeds fe), some z.enc, some (nD z.signs), some z.tableD, some (nD q.1), some (nD q.2), some (.ref p), x1, x2, x3, x4, x5, x6]) ⟨[], _, _, _, _, _, _, Nat.zero_le _, rfl, rfl, rfl⟩ ?_ ?_
    · rintro i g δ m' hy ⟨l, x1, x2, x3, x4, x5, x6, hl, el, rfl, rfl⟩
      obtain ⟨rfl, hg⟩ := range_get hy
      refine ⟨_, rfl, _, rfl, _, _, _, rfl, rfl, at_rg hq1, _, rfl, _, _, _, rfl, rfl, at_rg hg, _, rfl, ?_⟩
      rw [en_rg]
      refine for_T (fun j δ m'' => ∃ (l' : List (List (Nat × Pr))) (x2 x3 x4 x5 x6 : Option D), l'.length ≤ 3 * g + j ∧ l' = l ++ ((((List.range z.deeds).take j).filter fun w => (z.go q.1 g w).any (z.keptB fe)).map fun w => (g, w)).map (z.anss fe (z.keptB fe) q) ∧ m'' = updM m p (.lst (asksD l')) ∧
        δ = [some (prN q), some (.tup ((z.kepts fe).map nD)), some (Fee.enc z.deeds fe), some z.enc, some (nD z.signs), some z.tableD, some (nD q.1), some (nD q.2), some (.ref p), some (nD g), x2, x3, x4, x5, x6]) ⟨l, _, _, _, _, _, hl, by simp, rfl, rfl⟩ ?_ ?_
      · rintro j w0 δ m'' hy2 ⟨l', y2, y3, y4, y5, y6, hl', el', rfl, rfl⟩
        have hyy := hy2
        obtain ⟨rfl, hw⟩ := range_get hy2
        refine ⟨_, rfl, rfl, _, _, rfl, _, _, rfl, rfl, ?_⟩
        refine ⟨_, rfl, _, rfl, _, hG.go _ _, _, rfl, fun e1 => ?_, fun e1 => ?_⟩
        · have e1 : (z.go q.1 g w0).any (z.keptB fe) = true := e1
          cases eg : z.go q.1 g w0 with
          | none => rw [eg] at e1; cases e1
          | some h0 =>
            refine ⟨_, rfl, _, rfl, _, rfl, _, rfl, _, rfl, _, rfl, rfl, _, ⟨z, fe, z.keptB fe, _, q.2, g, w0, ok, hG, hq2, hg, hw, rfl, rfl⟩, ?_⟩
            refine ⟨_, rfl, _, rfl, _, _, _, rfl, rfl, at_rg hq2, _, rfl, _, _, _, rfl, rfl, at_rg hg, ?_⟩
            refine ⟨_, rfl, p, _, rfl, updM_same, _, rfl, _, rfl, ?_⟩
            refine lc_map (g := fun d => ansD ((fe.cost w0 d).getD 0 + 1, ((z.go q.1 g w0).getD 0, (z.go q.2 g d).getD 0))) (sz_of ?_) (fun d hd m2 Q N sm hq => ⟨fun _ => ?_, nofun⟩) ?_
            · have h1 := List.length_filter_le (fun d => (z.go q.2 g d).any (z.keptB fe)) (fe.ans z.deeds w0)
              have h2 := ans_len (f := fe) (n := z.deeds) (w := w0)
              have : (z.keeps fe (z.keptB fe) q.2 g w0).length ≤ (fe.ans z.deeds w0).length := h1
              omega
            · obtain ⟨hd1, hd2⟩ := List.mem_filter.mp hd
              have hdl := ans_lt hd1
              have hd3 := (List.mem_filter.mp hd1).2
              cases ec : fe.cost w0 d with
              | none => rw [ec] at hd3; cases hd3
              | some c =>
                cases et : z.go q.2 g d with
                | none => rw [et] at hd2; cases hd2
                | some t0 =>
                  rw [ec, eg, et] at hq
                  refine ⟨_, rfl, _, rfl, _, rfl, rfl, _, ⟨z.deeds, fe, w0, d, hw, hdl, rfl, rfl⟩, (c : Nat), 1, by rw [ec]; rfl, rfl, _, rfl, _, rfl, _, rfl, _, _, _, rfl, rfl, at_rg hdl, z2, z2, ?_⟩
                  rw [et]
                  exact hq
            · refine ⟨_, _, rfl, updM_same, ?_, ?_⟩
              · rw [List.length_map, sizeLine_eq]; omega
              · rw [updM_updM]
                refine ⟨l' ++ [z.anss fe (z.keptB fe) q (g, w0)], _, _, _, _, _, ?_, ?_, ?_, rfl⟩
                · rw [List.length_append]; simp; omega
                · rw [take_succ hyy, List.filter_append, List.map_append, List.map_append, el', List.append_assoc]
                  congr 2
                  rw [List.filter_cons, if_pos e1]
                  rfl
                · congr 2
                  show asksD l' ++ _ = (l' ++ _).map _
                  rw [List.map_append]
                  congr 1
                  show _ = [D.lst (((z.keeps fe (z.keptB fe) q.2 g w0).map _).map ansD)]
                  rw [List.map_map]
                  rfl
        · have e1 : (z.go q.1 g w0).any (z.keptB fe) = false := e1
          refine ⟨l', _, _, _, _, _, by omega, ?_, rfl, rfl⟩
          rw [take_succ hyy, List.filter_append, List.filter_cons, if_neg (by rw [e1]; exact Bool.false_ne_true), el']
          simp
      · rintro δ m'' ⟨l', y2, y3, y4, y5, y6, hl', el', rfl, rfl⟩
        rw [List.length_range] at hl'
        rw [List.take_length] at el'
        refine ⟨l', _, _, _, _, _, _, by omega, ?_, rfl, rfl⟩
        rw [take_succ hy, List.flatMap_append, List.map_append, el', el]
        simp
    · rintro δ m' ⟨l, x1, x2, x3, x4, x5, x6, hl, el, rfl, rfl⟩
      rw [List.take_length] at el
      refine ⟨_, rfl, p, _, rfl, updM_same, trivial, m, by rw [delM_updM hp]; exact SubM.refl m, ?_⟩
      rw [ea] at h
      rw [el]
      exact h
end
end MW

end
section
set_option Elab.async false
set_option linter.all false
set_option maxRecDepth 100000
set_option pp.maxSteps 400
/-! MwGame: made/games: game_by. -/
namespace MW
open PySem PySem.Spec PyProof.Rows L2 NdefX
/-- both rooms kept -/
def Say.K2 (s : Say) (f : Fee) (q : Pr) : Prop := s.Kept f q.1 ∧ s.Kept f q.2
noncomputable abbrev Say.A (s : Say) (f : Fee) (q : Pr) : List (List (Nat × Pr)) := s.asks f (s.keptB f) q
theorem any_kept {s : Say} {f : Fee} {o : Option Nat} (h : o.any (s.keptB f) = true) : ∃ t, o = some t ∧ s.Kept f t := by
  cases o with
  | none => cases h
  | some t => exact ⟨t, rfl, Say.keptB_iff.mp h⟩
theorem steps_mem {s : Say} {p : Nat → Bool} {a : Nat} {st : Pr} : st ∈ s.steps p a ↔ st.1 < s.signs ∧ st.2 < s.deeds ∧ (s.go a st.1 st.2).any p = true := by
  unfold Say.steps
  rw [List.mem_flatMap]
  constructor
  · rintro ⟨g, hg, h⟩
    obtain ⟨w, hw, e⟩ := List.mem_map.mp h
    subst e
    obtain ⟨h1, h2⟩ := List.mem_filter.mp hw
    exact ⟨List.mem_range.mp hg, List.mem_range.mp h1, h2⟩
  · rintro ⟨h1, h2, h3⟩
    exact ⟨st.1, List.mem_range.mpr h1, List.mem_map.mpr ⟨st.2, List.mem_filter.mpr ⟨List.mem_range.mpr h2, h3⟩, rfl⟩⟩
theorem keeps_mem {s : Say} {f : Fee} {p : Nat → Bool} {r g w d : Nat} : d ∈ s.keeps f p r g w ↔ d < s.deeds ∧ (f.cost w d).isSome = true ∧ (s.go r g d).any p = true := by
  unfold Say.keeps Fee.ans
  rw [List.mem_filter, List.mem_filter, List.mem_range, and_assoc]
theorem anss_mem {s : Say} {f : Fee} {q st : Pr} {a : Nat × Pr} (h : a ∈ s.anss f (s.keptB f) q st) (h1 : (s.go q.1 st.1 st.2).any (s.keptB f) = true) :
    s.K2 f a.2 ∧ ∃ d, d < s.deeds ∧ ∃ c, f.cost st.2 d = some c ∧ a.1 = c + 1 := by
  obtain ⟨d, hd, e⟩ := List.mem_map.mp h
  subst e
  obtain ⟨d1, d2, d3⟩ := keeps_mem.mp hd
  obtain ⟨t1, e1, k1⟩ := any_kept h1
  obtain ⟨t2, e2, k2⟩ := any_kept d3
  cases ec : f.cost st.2 d with
  | none => rw [ec] at d2; cases d2
  | some c =>
    refine ⟨⟨?_, ?_⟩, d, d1, c, ec, ?_⟩
    · show s.Kept f ((s.go q.1 st.1 st.2).getD 0); rw [e1]; exact k1
    · show s.Kept f ((s.go q.2 st.1 d).getD 0); rw [e2]; exact k2
    · rfl
theorem asks_kept {s : Say} {f : Fee} {q : Pr} (hq : s.K2 f q) {ask : List (Nat × Pr)} (h : ask ∈ s.A f q) {a : Nat × Pr} (ha : a ∈ ask) : s.K2 f a.2 := by
  unfold Say.A Say.asks at h
  split at h
  · rw [List.mem_singleton.mp h] at ha
    rw [List.mem_singleton.mp ha]
    exact hq
  · obtain ⟨st, hst, e⟩ := List.mem_map.mp h
    subst e
    exact (anss_mem ha (steps_mem.mp hst).2.2).1
theorem steps_len {s : Say} {p : Nat → Bool} {a : Nat} : (s.steps p a).length ≤ s.signs * s.deeds := by
  unfold Say.steps
  have key : ∀ l : List Nat, (l.flatMap fun g => ((List.range s.deeds).filter fun w => (s.go a g w).any p).map fun w => (g, w)).length ≤ l.length * s.deeds := by
    intro l
    induction l with
    | nil => exact Nat.le_of_eq (by simp)
    | cons x l ih =>
      rw [List.flatMap_cons, List.length_append, List.length_map, List.length_cons, Nat.succ_mul]
      have := List.length_filter_le (fun w => (s.go a x w).any p) (List.range s.deeds)
      rw [List.length_range] at this
      omega
  have := key (List.range s.signs)
  rw [List.length_range] at this
  exact this
theorem asks_len {s : Say} {f : Fee} {q : Pr} (ok : s.Ok) : (s.A f q).length ≤ 6 := by
  unfold Say.A Say.asks
  split
  · show 1 ≤ 6; decide
  · rw [List.length_map]
    have h := steps_len (s := s) (p := s.keptB f) (a := q.1)
    have h2 : s.signs * s.deeds ≤ 2 * 3 := Nat.mul_le_mul ok.s2 ok.d2
    omega
theorem ask_len {s : Say} {f : Fee} {q : Pr} (ok : s.Ok) {ask : List (Nat × Pr)} (h : ask ∈ s.A f q) : ask.length ≤ 3 := by
  unfold Say.A Say.asks at h
  split at h
  · rw [List.mem_singleton.mp h]; show 1 ≤ 3; decide
  · obtain ⟨st, hst, e⟩ := List.mem_map.mp h
    subst e
    unfold Say.anss Say.keeps
    rw [List.length_map]
    have h1 := List.length_filter_le (fun d => (s.go q.2 st.1 d).any (s.keptB f)) (f.ans s.deeds st.2)
    have h2 := ans_len (f := f) (n := s.deeds) (w := st.2)
    have := ok.d2
    omega
/-- what game_by gives -/
noncomputable abbrev Say.gameOf (s : Say) (f : Fee) (ps : List Pr) : D := .tup (ps.map fun q => .tup ((s.A f q).map (encA ps)))
structure Places (s : Say) (f : Fee) (q0 : Pr) (ps : List Pr) : Prop where
  nd : ps.Nodup
  hd : ps[0]? = some q0
  kept : ∀ q ∈ ps, s.K2 f q
  closed : ∀ q ∈ ps, ∀ ask ∈ s.A f q, ∀ a ∈ ask, a.2 ∈ ps
theorem Places.len {s : Say} {f : Fee} {q0 : Pr} {ps : List Pr} (h : Places s f q0 ps) : ps.length ≤ s.rooms * s.rooms := pairs_len h.nd fun q hq => ⟨(h.kept q hq).1.lt, (h.kept q hq).2.lt⟩
noncomputable def clD (s : Say) (f : Fee) : List D := [.tup ((s.kepts f).map nD), Fee.enc s.deeds f, s.enc, nD s.signs, s.tableD]
noncomputable def sp_game_by (f : Addr) (F : NF) (us : List V) : DSp := fun ds m Kd => ds.length = 2 ∧ ∃ s fe q0, Say.Ok s ∧ s.K2 fe q0 ∧ ds = [prN q0, .clo f F us (clD s fe)] ∧ ∀ ps, Places s fe q0 ps → Kd (.tup [s.gameOf fe ps, .tup (ps.map prN)]) m
structure GI (s : Say) (f : Fee) (q0 : Pr) (m m' : Mem) (pl gm : Addr) (ps : List Pr) (i : Nat) : Prop where
  sub : SubM m m'
  pl : m' pl = some (.dP (idxs ps))
  gm : m' gm = some (.lst ((ps.take i).map fun q => .tup ((s.A f q).map (encA ps))))
  nd : ps.Nodup
  hd : ps[0]? = some q0
  kept : ∀ q ∈ ps, s.K2 f q
  closed : ∀ q ∈ ps.take i, ∀ ask ∈ s.A f q, ∀ a ∈ ask, a.2 ∈ ps
  le : i ≤ ps.length
theorem GI.len {s : Say} {f : Fee} {q0 : Pr} {m m' : Mem} {pl gm : Addr} {ps : List Pr} {i : Nat} (h : GI s f q0 m m' pl gm ps i) (ok : s.Ok) : ps.length ≤ 36 := by
  have := pairs_len h.nd fun q hq => ⟨(h.kept q hq).1.lt, (h.kept q hq).2.lt⟩
  have h2 : s.rooms * s.rooms ≤ 6 * 6 := Nat.mul_le_mul ok.r2 ok.r2
  omega
section
variable {P : Program} {w : World} {K : PySem.W.Frag} {mg : Str → Option Value} {base : Heap}
abbrev st_game_by : Stmt := topS 33
theorem sc_game_by : FnScope ["begin", "asks_of", "places", "pairs", "game", "asks", "answers", "price", "pair"] ["begin", "asks_of"] (defScope st_game_by) := ⟨rfl, rfl, rfl, by decide +kernel, rfl, by decide +kernel, by decide +kernel⟩
theorem gb_walk {F : NF} {f g : Addr} {us : List V} {cdv : Value} {A : Around} {outer : List Env} {s : Shared} {H : Hp} (T : Txt mg) (G_placed : Fd P w K mg base 1 "placed" ["places", "pair"] sp_placed)
    (hr : Room 1 (A.deeper (envOfC "game_by" (defScope st_game_by) s.heap.objs.size g cdv)))
    (hloc : ∀ {e1 : Expr} {t1 : TDA} {p1 pos1 : Pos}, QA (cxOf CX0 P w K mg base ["begin", "asks_of", "places", "pairs", "game", "asks", "answers", "price", "pair"] "game_by" (defScope st_game_by) g cdv A outer s H E0).nox [e1] t1 → starEach [e1] (cxOf CX0 P w K mg base ["begin", "asks_of", "places", "pairs", "game", "asks", "answers", "price", "pair"] "game_by" (defScope st_game_by) g cdv A outer s H E0).env = [(false, eval e1 (cxOf CX0 P w K mg base ["begin", "asks_of", "places", "pairs", "game", "asks", "answers", "price", "pair"] "game_by" (defScope st_game_by) g cdv A outer s H E0).env)] →
      QE (cxOf CX0 P w K mg base ["begin", "asks_of", "places", "pairs", "game", "asks", "answers", "price", "pair"] "game_by" (defScope st_game_by) g cdv A outer s H E0).nox (.Call (.Name "asks_of" p1) [e1] [] pos1) (tLo 1 f F us sp_asks_of t1)) :
    ∃ T : TDS, QSs (cxOf CX0 P w K mg base ["begin", "asks_of", "places", "pairs", "game", "asks", "answers", "price", "pair"] "game_by" (defScope st_game_by) g cdv A outer s H E0).nox (defBody st_game_by) T ∧ ∀ ds m Kd, sp_game_by f F us ds m Kd → T (endD Kd) (startD ["begin", "asks_of", "places", "pairs", "game", "asks", "answers", "price", "pair"] ds) m := by
  refine ⟨_, (qss_cons (qs_set (i := 2) sc_game_by.nd rfl (by first | exact .inl rfl | exact .inr rfl) (q_disp1 (hu_of hr) (qv 0) q_int))
 (qss_cons (qs_set (i := 3) sc_game_by.nd rfl (by first | exact .inl rfl | exact .inr rfl) (q_lst (qa_cons (qv 0) qa_nil)))
 (qss_cons (qs_set (i := 4) sc_game_by.nd rfl (by first | exact .inl rfl | exact .inr rfl) (q_lstc qa_nil))
 (qss_cons (qs_while PassesOwn.never (qt_cmp op_lt liftB0 (q_callB call_lenA liftLen (by rfl) T.len (by decide +kernel) (qa_cons (qv 4) qa_nil)) (q_callB call_lenA liftLen (by rfl) T.len (by decide +kernel) (qa_cons (qv 3) qa_nil)) (nomark _))
 (qss_cons (qs_set (i := 5) sc_game_by.nd rfl (by first | exact .inl rfl | exact .inr rfl) (q_lstc qa_nil))
 (qss_cons (qs_for (vs := [6]) PassesOwn.never rfl (qi_list (hloc (qa_cons (q_ix (qv 3) (q_callB call_lenA liftLen (by rfl) T.len (by decide +kernel) (qa_cons (qv 4) qa_nil))) qa_nil) rfl)) (qg_name (i := 6) sc_game_by.nd rfl (by first | exact .inl rfl | exact .inr rfl))
 (qss_one (qs_expr (q_append (qv 5) (qa_cons (q_callTy call_tuple_of liftTup (by rfl) T.tup (by decide +kernel) (qa_cons (q_lc (own := [("price", 7), ("pair", 8)]) rfl sc_game_by.nd (qi_list (qv 6)) (blkOk_by (by kernel_rfl)) (fun _ _ _ _ _ => (qg_tup (n := 2) rfl (qgs_cons (qg_name (i := 7) sc_game_by.nd rfl (by first | exact .inl rfl | exact .inr rfl)) (qgs_cons (qg_name (i := 8) sc_game_by.nd rfl (by first | exact .inl rfl | exact .inr rfl)) qgs_nil)))) (fun _ _ _ _ _ => qts_nil) (fun _ _ _ _ _ => (q_tup (qa_cons (qv 7) (qa_cons (q_fd G_placed (hr.mono (by decide)) (by rfl) (qa_cons (qv 2) (qa_cons (qv 8) qa_nil))) qa_nil))))) qa_nil)) qa_nil)))))
 (qss_cons (qs_expr (q_append (qv 4) (qa_cons (q_callTy call_tuple_of liftTup (by rfl) T.tup (by decide +kernel) (qa_cons (qv 5) qa_nil)) qa_nil)))
 (qss_one (qs_set (i := 3) sc_game_by.nd rfl (by first | exact .inl rfl | exact .inr rfl) (q_callTy (callR_frz (call_list_dT rfl)) liftLd (by rfl) T.lst (by decide +kernel) (qa_cons (qv 2) qa_nil))))))))
 (qss_one (qs_ret (q_tup (qa_cons (q_callTy call_tuple_of liftTup (by rfl) T.tup (by decide +kernel) (qa_cons (qv 4) qa_nil)) (qa_cons (q_callTy call_tuple_of liftTup (by rfl) T.tup (by decide +kernel) (qa_cons (qv 3) qa_nil)) qa_nil))))))))), fun ds m Kd h => ?_⟩
  obtain ⟨_, z, fe, q0, ok, hq0, rfl, h⟩ := h
  have z2 : 2 ≤ sizeLine := sz_of (by decide)
  have z1 : 1 ≤ sizeLine := sz_of (by decide)
  intro pl hpl
  refine ⟨_, rfl, _, _, rfl, updM_same, ?_⟩
  rw [updM_updM]
  refine ⟨_, rfl, z1, Nat.zero_le _, fun gm hgm => ?_⟩
  have ngp : gm ≠ pl := fun e => by rw [e, updM_same] at hgm; cases hgm
  have hgm0 : m gm = none := by rw [updM_ne ngp] at hgm; exact hgm
  refine ⟨fun n δ m' => ∃ ps i x5 x6 x7 x8, δ = [some (prN q0), some (.clo f F us (clD z fe)), some (.ref pl), some (.lst (ps.map prN)), some (.ref gm), x5, x6, x7, x8] ∧ GI z fe q0 m m' pl gm ps i ∧ n = 36 - i,
    ⟨36, [q0], 0, none, none, none, none, rfl, ⟨((SubM.refl m).upd hpl).upd hgm0, by rw [updM_ne (Ne.symm ngp), updM_same]; rfl, updM_same, by simp, rfl, fun q hq => by rw [List.mem_singleton.mp hq]; exact hq0, fun q hq => absurd hq (by simp), Nat.zero_le _⟩, rfl⟩, ?_⟩
  rintro n δ m' ⟨ps, i, x5, x6, x7, x8, rfl, I, rfl⟩
  have hl36 := I.len ok
  have hil := I.le
  have lg : lenD (look m' (.ref gm)) = some i := by
    show lenD ((m' gm).getD _) = _
    rw [I.gm]
    show some (List.length _) = _
    rw [List.length_map, List.length_take, Nat.min_eq_left hil]
  have lp : lenD (look m' (.lst (ps.map prN))) = some ps.length := by
    show some (List.length _) = _
    rw [List.length_map]
  refine ⟨_, rfl, _, i, rfl, lg, _, rfl, _, ps.length, rfl, lp, (i : Nat), (ps.length : Nat), rfl, rfl, _, rfl, fun e => ?_, fun e => ?_⟩
  · have e : i < ps.length := by have := of_decide_eq_true e; omega
    refine ⟨Nat.zero_le _, fun ak hak => ?_⟩
    have npl : pl ≠ ak := fun e => by rw [← e, I.pl] at hak; cases hak
    have ngm : gm ≠ ak := fun e => by rw [← e, I.gm] at hak; cases hak
    have lg2 : lenD (look (updM m' ak (.lst [])) (.ref gm)) = some i := by
      show lenD ((updM m' ak _ gm).getD _) = _
      rw [updM_ne ngm]
      exact lg
    have hq : ps[i]? = some ps[i] := List.getElem?_eq_getElem e
    generalize ps[i] = q at hq
    have hqm : q ∈ ps := List.mem_of_getElem? hq
    have kq := I.kept q hqm
    have hma : m ak = none := I.sub.none hak
    refine ⟨clD z fe, rfl, _, rfl, _, rfl, _, i, rfl, lg2, _, (i : Nat), prN q, rfl, rfl, atI_nat (by rw [List.getElem?_map, hq]; rfl), rfl, z, fe, q, ok, kq.1.lt, kq.2.lt, rfl, rfl, _, rfl, ?_⟩
    have al := asks_len (s := z) (f := fe) (q := q) ok
    refine for_T (ys := z.A fe q) (enc := fun ask => .lst (ask.map ansD)) (fun j δ m'' => ∃ ps' x6 x7 x8, δ = [some (prN q0), some (.clo f F us (clD z fe)), some (.ref pl), some (.lst (ps.map prN)), some (.ref gm), some (.ref ak), x6, x7, x8] ∧
        SubM m m'' ∧ m'' pl = some (.dP (idxs ps')) ∧ m'' gm = some (.lst ((ps.take i).map fun q => .tup ((z.A fe q).map (encA ps)))) ∧ m'' ak = some (.lst (((z.A fe q).take j).map (encA ps'))) ∧
        ps <+: ps' ∧ ps'.Nodup ∧ (∀ q ∈ ps', z.K2 fe q) ∧ (∀ ask ∈ (z.A fe q).take j, ∀ a ∈ ask, a.2 ∈ ps')) ⟨ps, _, _, _, rfl, I.sub.upd hma, by rw [updM_ne npl]; exact I.pl, by rw [updM_ne ngm]; exact I.gm, by rw [updM_same]; rfl, List.prefix_rfl, I.nd, I.kept, fun ask ha => absurd ha (by simp)⟩ ?_ ?_
    · rintro j ask δ m'' hask ⟨ps', y6, y7, y8, rfl, s1, hp1, hg1, ha1, pre, nd', kk, cl⟩
      have ham := List.mem_of_getElem? hask
      have hal3 := ask_len ok ham
      have hj : j < (z.A fe q).length := (List.getElem?_eq_some_iff.mp hask).1
      refine ⟨_, rfl, ak, _, rfl, ha1, _, rfl, _, rfl, ?_⟩
      refine ⟨by rw [List.length_map]; exact sz_of (by omega), fun p0 hp0 => ⟨fun k m3 => ∃ ps'', ps'' = insAll ps' ((ask.take k).map (·.2)) ∧ m3 = updM (updM m'' pl (.dP (idxs ps''))) p0 (.lst ((ask.take k).map fun a => .tup [nD a.1, nD (ps''.idxOf a.2)])), ⟨ps', rfl, by rw [updM_self hp1]; rfl⟩, fun k x m3 hx hm3 => ?_, fun m3 hm3 => ?_⟩⟩
      · have np : pl ≠ p0 := fun e => by rw [← e, hp1] at hp0; cases hp0
        obtain ⟨ps'', eps, rfl⟩ := hm3
        rw [List.getElem?_map] at hx
        cases ea : ask[k]? with
        | none => rw [ea] at hx; cases hx
        | some a =>
          rw [ea] at hx
          have ex := Option.some.inj hx
          subst ex
          have hk : k < ask.length := (List.getElem?_eq_some_iff.mp ea).1
          have nd'' : ps''.Nodup := eps ▸ insAll_nd nd'
          have kk'' : ∀ q ∈ ps'', z.K2 fe q := fun q hq => by
            rw [eps, insAll_mem] at hq
            rcases hq with hq | hq
            · obtain ⟨b, hb, e⟩ := List.mem_map.mp hq
              subst e
              exact asks_kept kq ham (List.mem_of_mem_take hb)
            · exact kk q hq
          have hlen : ps''.length ≤ 36 := by
            have := pairs_len nd'' fun q hq => ⟨(kk'' q hq).1.lt, (kk'' q hq).2.lt⟩
            have h2 : z.rooms * z.rooms ≤ 6 * 6 := Nat.mul_le_mul ok.r2 ok.r2
            omega
          refine ⟨_, rfl, rfl, _, _, rfl, _, _, rfl, rfl, fun _ => ?_, nofun⟩
          refine ⟨_, rfl, _, rfl, _, rfl, rfl, pl, ps'', a.2, rfl, by rw [updM_ne np, updM_same], nd'', by omega, z2, (ask.take k).map fun a => .tup [nD a.1, nD (ps''.idxOf a.2)], by rw [updM_ne (Ne.symm np), updM_same], ?_, ins ps'' a.2, ?_, ?_⟩
          · rw [List.length_map, List.length_take, sizeLine_eq]; omega
          · rw [take_succ ea, List.map_append, List.map_cons, List.map_nil, insAll_snoc, ← eps]
          · rw [← updM_comm np, updM_updM, updM_updM]
            congr 2
            rw [take_succ ea, List.map_append]
            congr 1
            refine List.map_congr_left fun b hb => ?_
            rw [ins_idx]
            rw [eps, insAll_mem]
            exact .inl (List.mem_map.mpr ⟨b, hb, rfl⟩)
      · obtain ⟨ps'', eps, rfl⟩ := hm3
        rw [List.length_map, List.take_length] at eps ⊢
        have np : pl ≠ p0 := fun e => by rw [← e, hp1] at hp0; cases hp0
        refine ⟨_, updM_same, ?_⟩
        rw [delM_updM (by rw [updM_ne (Ne.symm np)]; exact hp0)]
        have hin : ∀ a ∈ ask, a.2 ∈ ps'' := fun a ha => by
          rw [eps, insAll_mem]
          exact .inl (List.mem_map.mpr ⟨a, ha, rfl⟩)
        have hpre : ps' <+: ps'' := eps ▸ insAll_pre
        refine ⟨_, _, rfl, rfl, _, _, rfl, by rw [updM_ne (Ne.symm npl)]; exact ha1, ?_, ?_⟩
        · rw [List.length_map, List.length_take, sizeLine_eq]; omega
        refine ⟨ps'', _, _, _, rfl, ?_, ?_, ?_, ?_, pre.trans hpre, eps ▸ insAll_nd nd', fun q hq => ?_, fun ask' ha' a ha => ?_⟩
        · exact ((s1.upd hpl).upd hma)
        · rw [updM_ne npl, updM_same]
        · rw [updM_ne ngm, updM_ne ngp]; exact hg1
        · rw [updM_same, take_succ hask, List.map_append]
          congr 2
          have : (ask.map fun a => D.tup [nD a.1, nD (ps''.idxOf a.2)]) = ask.map fun a => D.tup [nD a.1, nD (ps''.idxOf a.2)] := rfl
          have e1 : ((z.A fe q).take j).map (encA ps') = ((z.A fe q).take j).map (encA ps'') := List.map_congr_left fun ask' ha' => (encA_ext fun a ha => by rw [eps]; exact insAll_idx (cl ask' ha' a ha)).symm
          rw [e1]
          rfl
        · rw [eps, insAll_mem] at hq
          rcases hq with hq | hq
          · obtain ⟨b, hb, e⟩ := List.mem_map.mp hq
            subst e
            exact asks_kept kq ham hb
          · exact kk q hq
        · rw [take_succ hask] at ha'
          rcases List.mem_append.mp ha' with ha' | ha'
          · exact hpre.subset (cl ask' ha' a ha)
          · rw [List.mem_singleton.mp ha'] at ha
            exact hin a ha
    · rintro δ m'' ⟨ps', y6, y7, y8, rfl, s1, hp1, hg1, ha1, pre, nd', kk, cl⟩
      rw [List.take_length] at ha1 cl
      have la : look m'' (.ref ak) = .lst ((z.A fe q).map (encA ps')) := by
        show (m'' ak).getD _ = _
        rw [ha1]
        rfl
      have idx : ∀ {x : Pr}, x ∈ ps → ps'.idxOf x = ps.idxOf x := fun {x} hx => by
        obtain ⟨more, e⟩ := pre
        rw [← e, List.idxOf_append, if_pos hx]
      refine ⟨_, rfl, gm, _, rfl, hg1, _, rfl, _, _, rfl, la, _, _, rfl, hg1, ?_, ?_⟩
      · rw [List.length_map, List.length_take, sizeLine_eq]; omega
      have lk : look (updM m'' gm (.lst ((ps.take i).map (fun q => D.tup ((z.A fe q).map (encA ps))) ++ [.tup ((z.A fe q).map (encA ps'))]))) (.ref pl) = .dP (idxs ps') := by
        show (updM m'' gm _ pl).getD _ = _
        rw [updM_ne (Ne.symm ngp), hp1]
        rfl
      refine ⟨_, rfl, _, idxs ps', rfl, lk, ?_⟩
      have hpp : (ps')[i]? = some q := by
        obtain ⟨more, e⟩ := pre
        rw [← e, List.getElem?_append_left (by omega)]
        exact hq
      have htk : ps'.take (i + 1) = ps.take i ++ [q] := by
        rw [take_succ hpp]
        obtain ⟨more, e⟩ := pre
        rw [← e, List.take_append_of_le_length hil]
      have hlp : i < ps'.length := (List.getElem?_eq_some_iff.mp hpp).1
      have ek : (idxs ps').map (fun p => prD p.1) = ps'.map prN := by
        have := congrArg (List.map prD) (idxs_key (ps := ps'))
        unfold keyP at this
        rw [List.map_map, List.map_map] at this
        exact this
      rw [ek]
      refine ⟨36 - (i + 1), by omega, ps', i + 1, _, _, _, _, rfl, ⟨s1.upd hgm0, ?_, ?_, nd', ?_, kk, fun q' hq' ask ha a haa => ?_, hlp⟩, rfl⟩
      · rw [updM_ne (Ne.symm ngp)]; exact hp1
      · rw [updM_same, htk, List.map_append]
        congr 3
        refine List.map_congr_left fun q' hq' => ?_
        congr 1
        refine List.map_congr_left fun ask ha => (encA_ext fun a haa => idx (I.closed q' hq' ask ha a haa)).symm
      · obtain ⟨more, e⟩ := pre
        rw [← e, List.getElem?_append_left (by omega)]
        exact I.hd
      · rw [htk] at hq'
        rcases List.mem_append.mp hq' with hq' | hq'
        · exact pre.subset (I.closed q' hq' ask ha a haa)
        · rw [List.mem_singleton.mp hq'] at ha
          exact cl ask ha a haa
  · have e : i = ps.length := by have := of_decide_eq_false e; omega
    subst e
    have c := I.closed
    rw [List.take_length] at c
    have g := I.gm
    rw [List.take_length] at g
    have lk : look m' (.ref gm) = .lst (ps.map fun q => .tup ((z.A fe q).map (encA ps))) := by
      show (m' gm).getD _ = _
      rw [g]
      rfl
    exact ⟨_, rfl, _, _, rfl, lk, _, rfl, _, _, rfl, rfl, z2, m, I.sub, h ps ⟨I.nd, I.hd, I.kept, c⟩⟩
end
end MW

end
section
set_option Elab.async false
set_option linter.all false
set_option maxRecDepth 100000
set_option pp.maxSteps 400
/-! MwApart: made/games: game_apart. -/
namespace MW
open PySem PySem.Spec PyProof.Rows L2 LamX NdefX
theorem fn_dC {P : Program} {w : World} {K : PySem.W.Frag} {mg : Str → Option Value} {base : Heap} {x qual : Str} {st : Stmt} {f : Addr} {N ps : List Str} {k : Nat} {S : DSp} {oc kV doc pm cdv ct : Value} {od an : Option Addr} {osl : Array (Option Value)}
    (lk : K.lookup f = some ⟨oc, od, .func (PySem.W.fnOf x qual (defArgs st) (defBody st) (defScope st) .none kV doc pm an cdv ct), osl⟩) (hcd : PySem.W.codeIn K cdv qual = true) (sc : FnScope N ps (defScope st))
    (len : ∀ ds m Kd, S ds m Kd → ds.length = ps.length)
    (hbody : ∀ (A : Around) (outer : List Env) (s : Shared) (H : Hp) (E : XK), Room k (A.deeper (envOfC qual (defScope st) s.heap.objs.size f cdv)) →
      ∃ T : TDS, QSs (cxOf CX0 P w K mg base N qual (defScope st) f cdv A outer s H E).nox (defBody st) T ∧ ∀ ds m Kd, S ds m Kd → T (endD Kd) (startD N ds) m) :
    FnOk P w K mg base CX0 (k + 1) f (PySem.W.fnOf x qual (defArgs st) (defBody st) (defScope st) .none kV doc pm an cdv ct) ps (spD K S) := by
  refine fn_of lk hcd sc (fun vs H Q E ⟨ds, m, Kd, r, _, h, _⟩ => by rw [← r.length]; exact len ds m Kd h) fun A outer s H vs Q E hr ⟨ds, m, Kd, r, g, h, q⟩ => ?_
  obtain ⟨T, hT, hq⟩ := hbody A outer s H E hr
  refine ⟨_, hT.nox, startD N ds, m, endD Kd, ⟨g, sOk_start r⟩, hq ds m Kd h, ⟨fun σ' H' δ' m' k g' ⟨m0, s0, h0⟩ => ?_, fun v H' d m' k g' r' ⟨m0, s0, h0⟩ => ?_, fun _ _ _ _ _ _ z => z, fun _ _ _ _ _ _ z => z⟩⟩
  · exact q .non H' .non m0 k (g'.mem.sub s0) .non h0
  · exact q v H' d m0 k (g'.sub s0) r' h0
/-- the code table of game_apart's inner def, among the cells -/
def nmA : Nat → Nat → Str := fun _ _ => ("game_apart" ++ ".<locals>.") ++ "asks_of"
structure Tb (P : Addr) (m : Mem) : Prop where
  here : m P = some (.tab nmA)
  one : ∀ b nm', m b = some (.tab nm') → b = P
section
variable {P : Program} {w : World} {K : PySem.W.Frag} {mg : Str → Option Value} {base : Heap}
noncomputable def sp_game_apart (tp : Addr) : DSp := fun ds m Kd => ds.length = 4 ∧ ∃ s fe q0, Say.Ok s ∧ Fee.Ok s.deeds fe ∧ s.K2 fe q0 ∧ ds = [s.enc, nD q0.1, nD q0.2, Fee.enc s.deeds fe] ∧ grdM m ∧ Tb tp m ∧ ∀ ps, Places s fe q0 ps → Kd (.tup [s.gameOf fe ps, .tup (ps.map prN)]) m
theorem ok_game_apart {f c tp g : Addr} {fdg : FuncData} {oc kV doc pm ct : Value} {od an : Option Addr} {osl : Array (Option Value)}
    (lk : K.lookup f = some ⟨oc, od, .func (PySem.W.fnOf "game_apart" "game_apart" (defArgs st_game_apart) (defBody st_game_apart) (defScope st_game_apart) .none kV doc pm an (.ref c) ct), osl⟩) (hcd : PySem.W.codeIn K (.ref c) "game_apart" = true) (TB : TabB base mg c tp) (T : Txt mg)
    (G_need_both : Fd P w K mg base 6 "need_both" ["saying", "prices"] sp_need_both) (G_kept_in : Fd P w K mg base 6 "kept_in" ["saying", "prices"] sp_kept_in) (G_is_below : Fd P w K mg base 2 "is_below" ["thing", "most"] sp_is_below)
    (G_keepers : Fd P w K mg base 3 "keepers" ["saying", "prices", "good", "room", "sign", "wanted"] sp_keepers) (G_cost : Fd P w K mg base 1 "cost" ["prices", "wanted", "given"] sp_cost) (G_placed : Fd P w K mg base 1 "placed" ["places", "pair"] sp_placed)
    (Fg : Fun K "game_by" "game_by" st_game_by g fdg) (hb : Binds K fdg ["begin", "asks_of"] []) (hm : mg "game_by" = some (.ref g)) :
    FnOk P w K mg base CX0 (6 + 1) f (PySem.W.fnOf "game_apart" "game_apart" (defArgs st_game_apart) (defBody st_game_apart) (defScope st_game_apart) .none kV doc pm an (.ref c) ct) ["saying", "own", "mended", "prices"] (spD K (sp_game_apart tp)) := by
  refine fn_dC lk hcd sc_game_apart (fun _ _ _ h => h.1) fun A outer s H E hr => ⟨_, (qss_cons (qs_expr (q_fd G_need_both (hr.mono (by decide)) (by rfl) (qa_cons (qv 0) (qa_cons (qv 3) qa_nil))))
 (qss_cons (qs_set (i := 4) sc_game_apart.nd rfl (by first | exact .inl rfl | exact .inr rfl) (q_fd G_kept_in (hr.mono (by decide)) (by rfl) (qa_cons (qv 0) (qa_cons (qv 3) qa_nil))))
 (qss_cons (qs_for (vs := [5]) PassesOwn.never rfl (qi_tup (q_tup (qa_cons (qv 1) (qa_cons (qv 2) qa_nil)))) (qg_name (i := 5) sc_game_apart.nd rfl (by first | exact .inl rfl | exact .inr rfl))
 (qss_one (qs_if (PW.pt (qw_or (qt_not (qt_val (q_fd G_is_below (hr.mono (by decide)) (by rfl) (qa_cons (qv 5) (qa_cons (q_callB call_lenA liftLen (by rfl) T.len (by decide +kernel) (qa_cons (q_ix (qv 0) q_int) qa_nil)) qa_nil))))) (qw_or1 (qt_cmp (op_notInA (hu_of hr)) (liftIn true) (qv 5) (qv 4) (by rfl)))))
 (qss_one qs_never)
 qss_nil)))
 (qss_cons (qs_if (PW.pt (qw_and (qt_cmp op_notN liftNotN (qv 3) q_non (nomark _)) (qw_and1 (qt_val (q_callB (cr_any rfl) liftAny (by rfl) T.any (by decide +kernel) (qa_cons (q_lc (own := [("row", 10)]) rfl sc_game_apart.nd (qi_tup (qv 3)) (blkOk_by (by kernel_rfl)) (fun _ _ _ _ _ => (qg_name (i := 10) sc_game_apart.nd rfl (by first | exact .inl rfl | exact .inr rfl))) (fun _ _ _ _ _ => qts_nil) (fun _ _ _ _ _ => (q_cmp (op_inA (hu_of hr)) (liftIn false) (q_gi (by rfl) T.gDEAR) (qv 10) (by rfl)))) qa_nil))))))
 (qss_one qs_never)
 qss_nil)
 (qss_cons (qs_asg (vs := [6, 7, 8]) (qv 0) (qg_tup (n := 3) rfl (qgs_cons (qg_name (i := 6) sc_game_apart.nd rfl (by first | exact .inl rfl | exact .inr rfl)) (qgs_cons (qg_name (i := 7) sc_game_apart.nd rfl (by first | exact .inl rfl | exact .inr rfl)) (qgs_cons (qg_name (i := 8) sc_game_apart.nd rfl (by first | exact .inl rfl | exact .inr rfl)) qgs_nil)))))
    (qss_gb (i := 9) (js := [4, 3, 0, 6, 8]) (nm := nmA) (c := c) (P := tp) (fname := "asks_of") (ix := 1) (kg := 0) (psf := ["pair"]) (fr := ["kept", "prices", "saying", "signs", "table"]) (Ng := ["begin", "asks_of", "places", "pairs", "game", "asks", "answers", "price", "pair"]) (psg := ["begin", "asks_of"]) (S := sp_asks_of) (GB := sp_game_by) (y := "asks_of") (st1 := st_asks) (ka := 3 + 1)
      rfl TB rfl rfl (show ndefB (defScope st_game_apart) (C8.fnScope st_asks) ["kept", "prices", "saying", "signs", "table"] = true by decide +kernel) rfl rfl rfl sc_game_apart.nd rfl (by first | exact .inl rfl | exact .inr rfl) (by first | exact .inl rfl | exact .inr rfl) (by decide) rfl (fun _ => rfl)
      (fun f c' => ok_asks T G_keepers G_cost) (Nat.le_refl _) Fg hb sc_game_by rfl hm (hr.mono (by decide)) (qa_cons (q_tup (qa_cons (qv 1) (qa_cons (qv 2) qa_nil))) (qa_cons (qv 9) qa_nil)) rfl (.inl rfl)
      (fun f c' us cdv s H hr hloc => gb_walk T G_placed (hr.mono (by decide)) hloc) (fun f F us ds m Kd h => h.1))))))), fun ds m Kd h => ?_⟩
  obtain ⟨_, z, fe, q0, ok, fo, k0, rfl, gm, tb, h⟩ := h
  have z2 : 2 ≤ sizeLine := sz_of (by decide)
  have d2 := ok.d2
  have hG := goodAt_kepts z fe
  refine ⟨_, rfl, _, rfl, rfl, _, ⟨z, fe, ok, fo, rfl, rfl⟩, ?_⟩
  refine ⟨_, rfl, _, rfl, rfl, z, fe, ok, rfl, gm, ?_⟩
  refine ⟨_, rfl, _, rfl, z2, _, rfl, ?_⟩
  refine for_T (ys := [q0.1, q0.2]) (enc := nD) (fun i δ m' => m' = m ∧ ∃ x, δ = [some z.enc, some (nD q0.1), some (nD q0.2), some (Fee.enc z.deeds fe), some (.tup ((z.kepts fe).map nD)), x, none, none, none, none, none]) ⟨rfl, none, rfl⟩ ?_ ?_
  · rintro i y δ m' hy ⟨rfl, x, rfl⟩
    have ky : z.Kept fe y := by
      rcases List.mem_cons.mp (List.mem_of_getElem? hy) with e | e
      · rw [e]; exact k0.1
      · rw [List.mem_singleton.mp e]; exact k0.2
    have hy1 : (decide (((0 : Nat) : Int) ≤ (y : Nat)) && decide (((y : Nat) : Int) < (z.rooms : Nat))) = true := by
      have := ky.lt
      rw [Bool.and_eq_true]
      exact ⟨decT (by omega), decT (by omega)⟩
    refine ⟨_, rfl, _, rfl, _, _, _, rfl, rfl, rfl, _, z.rooms, rfl, by show some (rgM z.rooms z.roomD).length = _; rw [rg_length], rfl, _, ⟨_, _, rfl, rfl⟩, _, rfl, fun e => ?_, fun _ => ?_⟩
    · have e : (!(decide (((0 : Nat) : Int) ≤ (y : Nat)) && decide (((y : Nat) : Int) < (z.rooms : Nat)))) = true := e
      rw [hy1] at e
      cases e
    · refine ⟨_, rfl, _, rfl, _, hG.at_ y, _, rfl, fun e => ?_, fun _ => ⟨rfl, _, rfl⟩⟩
      rw [Say.keptB_iff.mpr ky] at e
      cases e
  · rintro δ m' ⟨rfl, x, rfl⟩
    have last : ∀ x10 : Option D, tAs (tV 0) (gTu 3 (gsC (gN 6) (gsC (gN 7) (gsC (gN 8) gsN)))) { endD Kd with nx := tGB tp nmA 9 [4, 3, 0, 6, 8] (NF.of st_asks "asks_of" ("game_apart" ++ ".<locals>." ++ "asks_of") (cloFrom (envOfC "game_apart" (defScope st_game_apart) s.heap.objs.size f (.ref c)).cells (C8.fnScope st_asks).names [])) sp_game_by (tAC (tTu (tAC (tV 1) (tAC (tV 2) tAN))) (tAC (tV 9) tAN)) (endD Kd) } [some z.enc, some (nD q0.1), some (nD q0.2), some (Fee.enc z.deeds fe), some (.tup ((z.kepts fe).map nD)), x, none, none, none, none, x10] m' := fun x10 => by
      refine ⟨_, rfl, [nD z.signs, nD z.deeds, z.tableD], rfl, rfl, _, _, rfl, _, _, rfl, _, _, rfl, rfl, ?_⟩
      refine ⟨tb.here, tb.one, (by show 9 < 11; decide), clD z fe, rfl, fun f c' us => ?_⟩
      exact ⟨_, rfl, _, rfl, z2, _, rfl, rfl, z, fe, q0, ok, k0, rfl, fun ps hp => ⟨m', SubM.refl m', h ps hp⟩⟩
    cases fe with
    | none => exact ⟨_, rfl, rfl, .inl ⟨rfl, _, rfl, nofun, fun _ => ⟨nofun, fun _ => last none⟩⟩⟩
    | some co =>
      refine ⟨_, rfl, rfl, .inr (.inr ⟨⟨_, rfl⟩, _, rfl, fun _ => ?_, nofun⟩)⟩
      refine ⟨_, rfl, _, rfl, ?_⟩
      refine lc_map (g := fun _ => .bl false) (szR z.deeds (by omega)) (fun y hy m2 Q N sm hq => ⟨fun _ => ⟨_, rfl, false, ?_, hq⟩, nofun⟩) ?_
      · show (if ((rgM z.deeds fun g => encO (co y g)).all flatD && flatD (.int 99)) = true then some ((rgM z.deeds fun g => encO (co y g)).any fun z => eqD z (.int 99)) else none) = some false
        rw [if_pos]
        · congr 1
          refine Bool.eq_false_iff.mpr fun z1 => ?_
          obtain ⟨d, hd, e⟩ := List.any_eq_true.mp z1
          obtain ⟨g, hg, e2⟩ := List.mem_map.mp hd
          subst e2
          cases ec : co y g with
          | none => rw [ec] at e; rw [show encO none = D.non from rfl, eqD_ni] at e; cases e
          | some p =>
            rw [ec] at e
            have e : eqD (.int (p : Nat)) (.int (99 : Nat)) = true := e
            rw [eqD_nat] at e
            have ep := of_decide_eq_true e
            by_cases eg : y = g
            · subst eg
              have := fo.self y
              have : co y y = some 0 := this
              rw [ec] at this
              have := Option.some.inj this
              omega
            · have := fo.other y g p eg ec
              omega
        · rw [Bool.and_eq_true]
          refine ⟨List.all_eq_true.mpr fun d hd => ?_, rfl⟩
          obtain ⟨g, hg, e2⟩ := List.mem_map.mp hd
          subst e2
          cases co y g <;> rfl
      · refine ⟨_, (List.range z.deeds).map fun _ => false, rfl, bls (p := fun _ => false), ?_⟩
        have e : ((List.range z.deeds).map fun _ => false).any id = false := by
          rw [List.any_map]
          exact List.any_eq_false.mpr fun _ _ => by simp
        rw [e]
        exact ⟨_, rfl, nofun, fun _ => last none⟩
end
end MW

end
section
set_option Elab.async false
set_option linter.all false
set_option maxRecDepth 100000
set_option pp.maxSteps 400
/-! MwE: games/tables, games/steps, games/mean. -/
namespace MW
open PySem PySem.Spec PyProof.Rows L2
abbrev Ask := List (Nat × Nat)
abbrev Game := List (List Ask)
def ansN (a : Nat × Nat) : D := .tup [nD a.1, nD a.2]
def askD (ask : Ask) : D := .tup (ask.map ansN)
def posD (asks : List Ask) : D := .tup (asks.map askD)
def gameD (G : Game) : D := .tup (G.map posD)
structure Game.Ok (G : Game) : Prop where
  g1 : 1 ≤ G.length
  g2 : G.length ≤ 36
  a1 : ∀ asks ∈ G, 1 ≤ asks.length
  a2 : ∀ asks ∈ G, asks.length ≤ 6
  b1 : ∀ asks ∈ G, ∀ ask ∈ asks, 1 ≤ ask.length
  b2 : ∀ asks ∈ G, ∀ ask ∈ asks, ask.length ≤ 3
  price : ∀ asks ∈ G, ∀ ask ∈ asks, ∀ a ∈ ask, a.1 ≤ 99
  there : ∀ asks ∈ G, ∀ ask ∈ asks, ∀ a ∈ ask, a.2 < G.length
  shape : ∀ (i : Nat) asks, G[i]? = some asks → asks = [[(0, i)]] ∨ ∀ ask ∈ asks, ∀ a ∈ ask, 1 ≤ a.1
def minL : List Nat → Nat
  | [] => 0
  | [x] => x
  | x :: y :: l => min x (minL (y :: l))
def maxL : List Nat → Nat
  | [] => 0
  | x :: l => max x (maxL l)
theorem minL_le : ∀ {l : List Nat} {x : Nat}, x ∈ l → minL l ≤ x
  | [y], x, h => by rw [List.mem_singleton.mp h]; exact Nat.le_refl _
  | y :: z :: l, x, h => by
    show min y (minL (z :: l)) ≤ x
    rcases List.mem_cons.mp h with e | h
    · rw [e]; exact Nat.min_le_left _ _
    · exact Nat.le_trans (Nat.min_le_right _ _) (minL_le h)
theorem minL_mem : ∀ {l : List Nat}, l ≠ [] → minL l ∈ l
  | [], h => absurd rfl h
  | [y], _ => List.mem_singleton.mpr rfl
  | y :: z :: l, _ => by
    show min y (minL (z :: l)) ∈ _
    rcases Nat.le_total y (minL (z :: l)) with h | h
    · rw [Nat.min_eq_left h]; exact List.mem_cons_self ..
    · rw [Nat.min_eq_right h]; exact List.mem_cons_of_mem _ (minL_mem (by simp))
theorem maxL_le : ∀ {l : List Nat} {x : Nat}, x ∈ l → x ≤ maxL l
  | y :: l, x, h => by
    show x ≤ max y (maxL l)
    rcases List.mem_cons.mp h with e | h
    · rw [e]; exact Nat.le_max_left _ _
    · exact Nat.le_trans (maxL_le h) (Nat.le_max_right _ _)
theorem maxL_mem : ∀ {l : List Nat}, l ≠ [] → maxL l ∈ l
  | [], h => absurd rfl h
  | [y], _ => by show max y 0 ∈ [y]; rw [Nat.max_eq_left (Nat.zero_le _)]; exact List.mem_singleton.mpr rfl
  | y :: z :: l, _ => by
    show max y (maxL (z :: l)) ∈ _
    rcases Nat.le_total (maxL (z :: l)) y with h | h
    · rw [Nat.max_eq_left h]; exact List.mem_cons_self ..
    · rw [Nat.max_eq_right h]; exact List.mem_cons_of_mem _ (maxL_mem (by simp))
theorem minL_eq {l : List Nat} {k : Int} (h : k ∈ l.map fun x => ((x : Nat) : Int)) (hm : ∀ y ∈ l.map fun x => ((x : Nat) : Int), k ≤ y) : k = (minL l : Nat) := by
  obtain ⟨x, hx, e⟩ := List.mem_map.mp h
  subst e
  have h1 := minL_le hx
  have h2 := hm _ (List.mem_map.mpr ⟨minL l, minL_mem (List.ne_nil_of_mem hx), rfl⟩)
  omega
theorem maxL_eq {l : List Nat} {k : Int} (h : k ∈ l.map fun x => ((x : Nat) : Int)) (hm : ∀ y ∈ l.map fun x => ((x : Nat) : Int), y ≤ k) : k = (maxL l : Nat) := by
  obtain ⟨x, hx, e⟩ := List.mem_map.mp h
  subst e
  have h1 := maxL_le hx
  have h2 := hm _ (List.mem_map.mpr ⟨maxL l, maxL_mem (List.ne_nil_of_mem hx), rfl⟩)
  omega
def leastOf (ask : Ask) (row : List Nat) : Nat := minL (ask.map fun a => a.1 + row.getD a.2 0)
def rowB (G : Game) (row : List Nat) : List Nat := G.map fun asks => maxL (asks.map fun ask => leastOf ask row)
def dear (G : Game) : Nat := maxL (G.flatMap fun asks => asks.flatMap fun ask => ask.map (·.1))
theorem len_flat {α β : Type} {f : α → List β} {n : Nat} : ∀ {l : List α}, (∀ x ∈ l, (f x).length ≤ n) → (l.flatMap f).length ≤ l.length * n
  | [], _ => Nat.zero_le _
  | x :: l, h => by
    rw [List.flatMap_cons, List.length_append, List.length_cons, Nat.succ_mul]
    have := h x (List.mem_cons_self ..)
    have := len_flat (l := l) fun y hy => h y (List.mem_cons_of_mem _ hy)
    omega
theorem flat_one' {α β : Type} {g : α → β} (l : List α) : (l.flatMap fun a => [g a]) = l.map g := by
  induction l with
  | nil => rfl
  | cons x l ih => rw [List.flatMap_cons, ih, List.map_cons]; rfl
abbrev pricesD (G : Game) : List D := G.flatMap fun asks => asks.flatMap fun ask => ask.flatMap fun a => [nD a.1]
theorem prices_len {G : Game} (ok : G.Ok) : (pricesD G).length ≤ 648 := by
  have h : (pricesD G).length ≤ G.length * 18 := len_flat (l := G) (f := fun asks => asks.flatMap fun ask => ask.flatMap fun a => [nD a.1]) (n := 18) fun asks hm => by
    have h2 := len_flat (l := asks) (f := fun ask => ask.flatMap fun a => [nD a.1]) (n := 3) fun ask ha => by
      rw [flat_one' ask, List.length_map]
      exact ok.b2 _ hm ask ha
    have := ok.a2 _ hm
    omega
  have := ok.g2
  omega
theorem prices_eq (G : Game) : pricesD G = (G.flatMap fun asks => asks.flatMap fun ask => ask.map (·.1)).map nD := by
  unfold pricesD
  rw [List.map_flatMap]
  congr 1
  funext asks
  rw [List.map_flatMap]
  congr 1
  funext ask
  rw [flat_one' ask, List.map_map]
  rfl
theorem wipeD_length (δ : Sl) : ∀ vs : List Nat, (wipeD δ vs).length = δ.length
  | [] => rfl
  | v :: vs => by
    show ((wipeD δ vs).set v none).length = _
    rw [List.length_set, wipeD_length δ vs]
theorem get34 {L : Sl} {a b : Option D} (h : L.length = 5) : ((L.set 3 a).set 4 b)[3]? = some a := by
  rw [List.getElem?_set_ne (by decide), List.getElem?_set_self (by omega)]
theorem at_nat {l : List Nat} {i : Nat} (h : i < l.length) : atI (l.map nD) ((i : Nat) : Int) = some (nD (l.getD i 0)) := atI_nat (by rw [List.getElem?_map, List.getElem?_eq_getElem h, List.getD_eq_getElem?_getD, List.getElem?_eq_getElem h]; rfl)
theorem nats_D (l : List Nat) : (l.map fun x => ((x : Nat) : Int)).map D.int = l.map nD := by rw [List.map_map]; rfl
section
variable {P : Program} {w : World} {K : PySem.W.Frag} {mg : Str → Option Value} {base : Heap}

abbrev st_is_between : Stmt := topS 38
theorem sc_is_between : FnScope ["thing", "least", "most"] ["thing", "least", "most"] (defScope st_is_between) := ⟨rfl, rfl, rfl, by decide +kernel, rfl, by decide +kernel, by decide +kernel⟩
def sp_is_between : DSp := pureS 3 fun ds d => ∃ i a b, ds = [.int i, .int a, .int b] ∧ d = .bl (decide (a ≤ i) && decide (i ≤ b))
theorem ok_is_between {f : Addr} {fd : FuncData} (F : Fun K "is_between" "is_between" st_is_between f fd) (T : Txt mg) (G_is_whole : Fd P w K mg base 1 "is_whole" ["thing"] sp_is_whole) : FnOk P w K mg base CX0 2 f fd ["thing", "least", "most"] (spD K sp_is_between) := by
  refine fn_d F sc_is_between (fun _ _ _ h => h.1) fun cdv A outer s H E hr => ⟨_, (qss_one (qs_ret (q_and (q_fd G_is_whole (hr.mono (by decide)) (by rfl) (qa_cons (qv 0) qa_nil)) (q_one (q_chain op_le op_le liftB0 liftB0 (qv 1) (qv 0) (qv 2)))))), fun ds m Kd h => ?_⟩
  obtain ⟨_, _, ⟨i, a, b, rfl, rfl⟩, h⟩ := h
  refine ⟨_, rfl, rfl, _, ⟨i, rfl, rfl⟩, true, rfl, fun _ => ?_, nofun⟩
  refine ⟨_, rfl, _, rfl, a, i, rfl, rfl, _, rfl, fun e => ⟨_, rfl, i, b, rfl, rfl, m, SubM.refl m, ?_⟩, fun e => ⟨m, SubM.refl m, ?_⟩⟩
  · rw [e, Bool.true_and] at h; exact h
  · rw [e, Bool.false_and] at h; exact h

abbrev st_is_answer : Stmt := topS 39
theorem sc_is_answer : FnScope ["thing", "many", "price", "there"] ["thing", "many"] (defScope st_is_answer) := ⟨rfl, rfl, rfl, by decide +kernel, rfl, by decide +kernel, by decide +kernel⟩
def sp_is_answer : DSp := pureS 2 fun ds d => ∃ a n, a.1 ≤ 99 ∧ a.2 < n ∧ ds = [ansN a, nD n] ∧ d = .bl true
theorem ok_is_answer {f : Addr} {fd : FuncData} (F : Fun K "is_answer" "is_answer" st_is_answer f fd) (T : Txt mg) (G_is_between : Fd P w K mg base 2 "is_between" ["thing", "least", "most"] sp_is_between) (G_is_below : Fd P w K mg base 2 "is_below" ["thing", "most"] sp_is_below) : FnOk P w K mg base CX0 3 f fd ["thing", "many"] (spD K sp_is_answer) := by
  refine fn_d F sc_is_answer (fun _ _ _ h => h.1) fun cdv A outer s H E hr => ⟨_, (qss_cons (qs_if (PW.pt (qw_or (qt_not (qt_val (q_callB call_isi liftIsi (by rfl) T.isi (by decide +kernel) (qa_cons (qv 0) (qa_cons (q_type (n := "tuple") (by rfl) T.tup (by decide +kernel)) qa_nil))))) (qw_or1 (qt_cmp (op_neD hr.units) liftNe (q_callB call_lenA liftLen (by rfl) T.len (by decide +kernel) (qa_cons (qv 0) qa_nil)) q_int (nomark _)))))
 (qss_one (qs_ret q_bl))
 qss_nil)
 (qss_cons (qs_asg (vs := [2, 3]) (qv 0) (qg_tup (n := 2) rfl (qgs_cons (qg_name (i := 2) sc_is_answer.nd rfl (by first | exact .inl rfl | exact .inr rfl)) (qgs_cons (qg_name (i := 3) sc_is_answer.nd rfl (by first | exact .inl rfl | exact .inr rfl)) qgs_nil))))
 (qss_one (qs_ret (q_and (q_fd G_is_between (hr.mono (by decide)) (by rfl) (qa_cons (qv 2) (qa_cons q_int (qa_cons (q_gi (by rfl) T.gDEAR) qa_nil)))) (q_one (q_fd G_is_below (hr.mono (by decide)) (by rfl) (qa_cons (qv 3) (qa_cons (qv 1) qa_nil))))))))), fun ds m Kd h => ?_⟩
  obtain ⟨_, _, ⟨a, n, h1, h2, rfl, rfl⟩, h⟩ := h
  refine ⟨_, rfl, _, _, _, true, rfl, rfl, by rfl, _, rfl, nofun, fun _ => ?_⟩
  refine ⟨_, rfl, _, 2, rfl, rfl, rfl, rfl, _, rfl, nofun, fun _ => ?_⟩
  refine ⟨_, rfl, [nD a.1, nD a.2], rfl, rfl, _, _, rfl, _, _, rfl, rfl, ?_⟩
  refine ⟨_, rfl, rfl, _, ⟨_, _, _, rfl, rfl⟩, _, rfl, fun _ => ?_, fun e => ?_⟩
  · refine ⟨_, rfl, _, rfl, rfl, _, ⟨_, _, rfl, rfl⟩, m, SubM.refl m, ?_⟩
    rw [decT (show (0 : Int) ≤ (a.2 : Nat) by omega), decT (show ((a.2 : Nat) : Int) < (n : Nat) by omega)]
    exact h
  · rw [decT (show (0 : Int) ≤ (a.1 : Nat) by omega), decT (show ((a.1 : Nat) : Int) ≤ 99 by omega)] at e
    cases e

abbrev st_is_ask : Stmt := topS 40
theorem sc_is_ask : FnScope ["thing", "many", "answer"] ["thing", "many"] (defScope st_is_ask) := ⟨rfl, rfl, rfl, by decide +kernel, rfl, by decide +kernel, by decide +kernel⟩
def sp_is_ask : DSp := pureS 2 fun ds d => ∃ ask n, 1 ≤ ask.length ∧ ask.length ≤ 9 ∧ (∀ a ∈ ask, a.1 ≤ 99 ∧ a.2 < n) ∧ ds = [askD ask, nD n] ∧ d = .bl true
theorem ok_is_ask {f : Addr} {fd : FuncData} (F : Fun K "is_ask" "is_ask" st_is_ask f fd) (T : Txt mg) (G_is_answer : Fd P w K mg base 3 "is_answer" ["thing", "many"] sp_is_answer) : FnOk P w K mg base CX0 4 f fd ["thing", "many"] (spD K sp_is_ask) := by
  refine fn_d F sc_is_ask (fun _ _ _ h => h.1) fun cdv A outer s H E hr => ⟨_, (qss_cons (qs_if (PW.pt (qw_or (qt_not (qt_val (q_callB call_isi liftIsi (by rfl) T.isi (by decide +kernel) (qa_cons (qv 0) (qa_cons (q_type (n := "tuple") (by rfl) T.tup (by decide +kernel)) qa_nil))))) (qw_or1 (qt_not (qt_chain op_le op_le liftB0 liftB0 q_int (q_callB call_lenA liftLen (by rfl) T.len (by decide +kernel) (qa_cons (qv 0) qa_nil)) (q_gi (by rfl) T.gANS))))))
 (qss_one (qs_ret q_bl))
 qss_nil)
 (qss_one (qs_ret (q_callB (cr_all rfl) liftAll (by rfl) T.all (by decide +kernel) (qa_cons (q_lc (own := [("answer", 2)]) rfl sc_is_ask.nd (qi_tup (qv 0)) (blkOk_by (by kernel_rfl)) (fun _ _ _ _ _ => (qg_name (i := 2) sc_is_ask.nd rfl (by first | exact .inl rfl | exact .inr rfl))) (fun _ _ _ _ _ => qts_nil) (fun _ _ _ _ _ => (q_fd G_is_answer (hr.mono (by decide)) (by rfl) (qa_cons (qv 2) (qa_cons (qv 1) qa_nil))))) qa_nil))))), fun ds m Kd h => ?_⟩
  obtain ⟨_, _, ⟨ask, n, h1, h2, h3, rfl, rfl⟩, h⟩ := h
  refine ⟨_, rfl, _, _, _, true, rfl, rfl, by rfl, _, rfl, nofun, fun _ => ?_⟩
  refine ⟨_, rfl, _, ask.length, rfl, by show some (List.length _) = _; rw [List.length_map], 1, _, rfl, rfl, _, rfl, fun _ => ⟨_, 9, rfl, rfl, _, rfl, fun e => ?_, fun _ => ?_⟩, fun e => ?_⟩
  · rw [decT (show ((ask.length : Nat) : Int) ≤ 9 by omega)] at e
    cases e
  · refine ⟨_, rfl, _, rfl, ?_⟩
    refine lc_map (g := fun _ => .bl true) (sz_of (by omega)) (fun a ha m2 Q N sm hq => ⟨fun _ => ⟨_, rfl, _, rfl, rfl, _, ⟨a, n, (h3 a ha).1, (h3 a ha).2, rfl, rfl⟩, hq⟩, nofun⟩) ?_
    refine ⟨_, ask.map fun _ => true, rfl, bls (p := fun _ => true), m, SubM.refl m, ?_⟩
    rw [all_true fun _ _ => rfl]
    exact h
  · rw [decT (show (1 : Int) ≤ (ask.length : Nat) by omega)] at e
    cases e

abbrev st_is_game : Stmt := topS 41
theorem sc_is_game : FnScope ["thing", "asks", "ask"] ["thing"] (defScope st_is_game) := ⟨rfl, rfl, rfl, by decide +kernel, rfl, by decide +kernel, by decide +kernel⟩
def sp_is_game : DSp := pureS 1 fun ds d => ∃ G, Game.Ok G ∧ ds = [gameD G] ∧ d = .bl true
theorem ok_is_game {f : Addr} {fd : FuncData} (F : Fun K "is_game" "is_game" st_is_game f fd) (T : Txt mg) (G_is_ask : Fd P w K mg base 4 "is_ask" ["thing", "many"] sp_is_ask) : FnOk P w K mg base CX0 5 f fd ["thing"] (spD K sp_is_game) := by
  refine fn_d F sc_is_game (fun _ _ _ h => h.1) fun cdv A outer s H E hr => ⟨_, (qss_cons (qs_if (PW.pt (qw_or (qt_not (qt_val (q_callB call_isi liftIsi (by rfl) T.isi (by decide +kernel) (qa_cons (qv 0) (qa_cons (q_type (n := "tuple") (by rfl) T.tup (by decide +kernel)) qa_nil))))) (qw_or1 (qt_not (qt_chain op_le op_le liftB0 liftB0 q_int (q_callB call_lenA liftLen (by rfl) T.len (by decide +kernel) (qa_cons (qv 0) qa_nil)) (q_gi (by rfl) T.gMOST))))))
 (qss_one (qs_ret q_bl))
 qss_nil)
 (qss_cons (qs_for (vs := [1]) PassesOwn.never rfl (qi_tup (qv 0)) (qg_name (i := 1) sc_is_game.nd rfl (by first | exact .inl rfl | exact .inr rfl))
 (qss_cons (qs_if (PW.pt (qw_or (qt_not (qt_val (q_callB call_isi liftIsi (by rfl) T.isi (by decide +kernel) (qa_cons (qv 1) (qa_cons (q_type (n := "tuple") (by rfl) T.tup (by decide +kernel)) qa_nil))))) (qw_or1 (qt_not (qt_chain op_le op_le liftB0 liftB0 q_int (q_callB call_lenA liftLen (by rfl) T.len (by decide +kernel) (qa_cons (qv 1) qa_nil)) (q_gi (by rfl) T.gASKS))))))
 (qss_one (qs_ret q_bl))
 qss_nil)
 (qss_one (qs_if (qt_not (qt_val (q_callB (cr_all rfl) liftAll (by rfl) T.all (by decide +kernel) (qa_cons (q_lc (own := [("ask", 2)]) rfl sc_is_game.nd (qi_tup (qv 1)) (blkOk_by (by kernel_rfl)) (fun _ _ _ _ _ => (qg_name (i := 2) sc_is_game.nd rfl (by first | exact .inl rfl | exact .inr rfl))) (fun _ _ _ _ _ => qts_nil) (fun _ _ _ _ _ => (q_fd G_is_ask (hr.mono (by decide)) (by rfl) (qa_cons (qv 2) (qa_cons (q_callB call_lenA liftLen (by rfl) T.len (by decide +kernel) (qa_cons (qv 0) qa_nil)) qa_nil))))) qa_nil))))
 (qss_one (qs_ret q_bl))
 qss_nil))))
 (qss_one (qs_ret q_bl)))), fun ds m Kd h => ?_⟩
  obtain ⟨_, _, ⟨G, ok, rfl, rfl⟩, h⟩ := h
  have g1 := ok.g1
  have g2 := ok.g2
  refine ⟨_, rfl, _, _, _, true, rfl, rfl, by rfl, _, rfl, nofun, fun _ => ?_⟩
  refine ⟨_, rfl, _, G.length, rfl, by show some (List.length _) = _; rw [List.length_map], 1, _, rfl, rfl, _, rfl, fun _ => ⟨_, 100, rfl, rfl, _, rfl, fun e => ?_, fun _ => ?_⟩, fun e => ?_⟩
  · rw [decT (show ((G.length : Nat) : Int) ≤ 100 by omega)] at e
    cases e
  · refine ⟨_, rfl, _, rfl, ?_⟩
    refine for_T (fun i δ m' => m' = m ∧ ∃ x y, δ = [some (gameD G), x, y]) ⟨rfl, _, _, rfl⟩ ?_ ?_
    · rintro i asks δ m' hy ⟨rfl, x, y, rfl⟩
      have hm := List.mem_of_getElem? hy
      have a1 := ok.a1 asks hm
      have a2 := ok.a2 asks hm
      refine ⟨_, rfl, _, _, _, true, rfl, rfl, by rfl, _, rfl, nofun, fun _ => ?_⟩
      refine ⟨_, rfl, _, asks.length, rfl, by show some (List.length _) = _; rw [List.length_map], 1, _, rfl, rfl, _, rfl, fun _ => ⟨_, 81, rfl, rfl, _, rfl, fun e => ?_, fun _ => ?_⟩, fun e => ?_⟩
      · rw [decT (show ((asks.length : Nat) : Int) ≤ 81 by omega)] at e
        cases e
      · refine ⟨_, rfl, _, rfl, ?_⟩
        refine lc_map (g := fun _ => .bl true) (sz_of (by omega)) (fun a ha m2 Q N sm hq => ⟨fun _ => ⟨_, rfl, _, rfl, _, G.length, rfl, by show some (List.length _) = _; rw [List.length_map], rfl, _, ⟨a, G.length, ok.b1 _ hm a ha, by have := ok.b2 _ hm a ha; omega, fun b hb => ⟨ok.price _ hm a ha b hb, ok.there _ hm a ha b hb⟩, rfl, rfl⟩, hq⟩, nofun⟩) ?_
        refine ⟨_, asks.map fun _ => true, rfl, bls (p := fun _ => true), ?_⟩
        rw [all_true fun _ _ => rfl]
        exact ⟨_, rfl, nofun, fun _ => ⟨rfl, _, _, rfl⟩⟩
      · rw [decT (show (1 : Int) ≤ (asks.length : Nat) by omega)] at e
        cases e
    · rintro δ m' ⟨rfl, x, y, rfl⟩
      exact ⟨_, SubM.refl _, h⟩
  · rw [decT (show (1 : Int) ≤ (G.length : Nat) by omega)] at e
    cases e

abbrev st_need_game : Stmt := topS 42
theorem sc_need_game : FnScope ["thing"] ["thing"] (defScope st_need_game) := ⟨rfl, rfl, rfl, by decide +kernel, rfl, by decide +kernel, by decide +kernel⟩
def sp_need_game : DSp := pureS 1 fun ds d => ∃ G, Game.Ok G ∧ ds = [gameD G] ∧ d = .non
theorem ok_need_game {f : Addr} {fd : FuncData} (F : Fun K "need_game" "need_game" st_need_game f fd) (T : Txt mg) (G_is_game : Fd P w K mg base 5 "is_game" ["thing"] sp_is_game) : FnOk P w K mg base CX0 6 f fd ["thing"] (spD K sp_need_game) := by
  refine fn_d F sc_need_game (fun _ _ _ h => h.1) fun cdv A outer s H E hr => ⟨_, (qss_one (qs_if (qt_not (qt_val (q_fd G_is_game (hr.mono (by decide)) (by rfl) (qa_cons (qv 0) qa_nil))))
 (qss_one qs_never)
 qss_nil)), fun ds m Kd h => ?_⟩
  obtain ⟨_, _, ⟨G, ok, rfl, rfl⟩, h⟩ := h
  exact ⟨_, rfl, rfl, _, ⟨G, ok, rfl, rfl⟩, _, rfl, nofun, fun _ => ⟨_, SubM.refl _, h⟩⟩

abbrev st_least_of : Stmt := topS 44
theorem sc_least_of : FnScope ["ask", "row", "price", "there"] ["ask", "row"] (defScope st_least_of) := ⟨rfl, rfl, rfl, by decide +kernel, rfl, by decide +kernel, by decide +kernel⟩
def sp_least_of : DSp := pureS 2 fun ds d => ∃ ask row, 1 ≤ ask.length ∧ ask.length ≤ 3 ∧ (∀ a ∈ ask, a.2 < row.length) ∧ ds = [askD ask, .tup (row.map nD)] ∧ d = nD (leastOf ask row)
theorem ok_least_of {f : Addr} {fd : FuncData} (F : Fun K "least_of" "least_of" st_least_of f fd) (T : Txt mg)  : FnOk P w K mg base CX0 1 f fd ["ask", "row"] (spD K sp_least_of) := by
  refine fn_d F sc_least_of (fun _ _ _ h => h.1) fun cdv A outer s H E hr => ⟨_, (qss_one (qs_ret (q_callB (cr_min rfl) liftMinL (by rfl) T.min (by decide +kernel) (qa_cons (q_lc (own := [("price", 2), ("there", 3)]) rfl sc_least_of.nd (qi_tup (qv 0)) (blkOk_by (by kernel_rfl)) (fun _ _ _ _ _ => (qg_tup (n := 2) rfl (qgs_cons (qg_name (i := 2) sc_least_of.nd rfl (by first | exact .inl rfl | exact .inr rfl)) (qgs_cons (qg_name (i := 3) sc_least_of.nd rfl (by first | exact .inl rfl | exact .inr rfl)) qgs_nil)))) (fun _ _ _ _ _ => qts_nil) (fun _ _ _ _ _ => (q_op op_add liftI0 (qv 2) (q_ix (qv 1) (qv 3))))) qa_nil)))), fun ds m Kd h => ?_⟩
  obtain ⟨_, _, ⟨ask, row, h1, h2, h3, rfl, rfl⟩, h⟩ := h
  refine ⟨_, rfl, _, rfl, ?_⟩
  refine lc_map (g := fun a => nD (a.1 + row.getD a.2 0)) (sz_of (by omega)) (fun a ha m2 Q N sm hq => ?_) ?_
  · refine ⟨_, rfl, rfl, _, _, rfl, _, _, rfl, rfl, fun _ => ⟨_, rfl, _, rfl, _, rfl, _, _, _, rfl, rfl, at_nat (h3 a ha), _, _, rfl, rfl, hq⟩, nofun⟩
  · refine ⟨_, (ask.map fun a => a.1 + row.getD a.2 0).map fun x => ((x : Nat) : Int), rfl, ?_, ?_, fun k hk hm => ?_⟩
    · rw [nats_D, List.map_map]; rfl
    · intro e
      have := congrArg List.length e
      rw [List.length_map, List.length_map] at this
      have : ask.length = 0 := this
      omega
    · rw [minL_eq hk hm]
      exact ⟨m, SubM.refl m, h⟩

abbrev st_row_behind : Stmt := topS 45
theorem sc_row_behind : FnScope ["game", "row", "asks", "ask"] ["game", "row"] (defScope st_row_behind) := ⟨rfl, rfl, rfl, by decide +kernel, rfl, by decide +kernel, by decide +kernel⟩
def sp_row_behind : DSp := pureS 2 fun ds d => ∃ G row, Game.Ok G ∧ row.length = G.length ∧ ds = [gameD G, .tup (row.map nD)] ∧ d = .tup ((rowB G row).map nD)
theorem ok_row_behind {f : Addr} {fd : FuncData} (F : Fun K "row_behind" "row_behind" st_row_behind f fd) (T : Txt mg) (G_least_of : Fd P w K mg base 1 "least_of" ["ask", "row"] sp_least_of) : FnOk P w K mg base CX0 2 f fd ["game", "row"] (spD K sp_row_behind) := by
  refine fn_d F sc_row_behind (fun _ _ _ h => h.1) fun cdv A outer s H E hr => ⟨_, (qss_one (qs_ret (q_callTy call_tuple_of liftTup (by rfl) T.tup (by decide +kernel) (qa_cons (q_lc (own := [("asks", 2)]) rfl sc_row_behind.nd (qi_tup (qv 0)) (blkOk_by (by kernel_rfl)) (fun _ _ _ _ _ => (qg_name (i := 2) sc_row_behind.nd rfl (by first | exact .inl rfl | exact .inr rfl))) (fun _ _ _ _ _ => qts_nil) (fun _ _ _ _ _ => (q_callB (cr_max rfl) liftMaxL (by rfl) T.max (by decide +kernel) (qa_cons (q_lc (own := [("ask", 3)]) rfl sc_row_behind.nd (qi_tup (qv 2)) (blkOk_by (by kernel_rfl)) (fun _ _ _ _ _ => (qg_name (i := 3) sc_row_behind.nd rfl (by first | exact .inl rfl | exact .inr rfl))) (fun _ _ _ _ _ => qts_nil) (fun _ _ _ _ _ => (q_fd G_least_of (hr.mono (by decide)) (by rfl) (qa_cons (qv 3) (qa_cons (qv 1) qa_nil))))) qa_nil)))) qa_nil)))), fun ds m Kd h => ?_⟩
  obtain ⟨_, _, ⟨G, row, ok, hl, rfl, rfl⟩, h⟩ := h
  have g2 := ok.g2
  refine ⟨_, rfl, _, rfl, ?_⟩
  refine lc_map (g := fun asks => nD (maxL (asks.map fun ask => leastOf ask row))) (sz_of (by omega)) (fun asks hm m2 Q N sm hq => ⟨fun _ => ?_, nofun⟩) ?_
  · have a1 := ok.a1 asks hm
    have a2 := ok.a2 asks hm
    refine ⟨_, rfl, _, rfl, ?_⟩
    refine lc_map (g := fun ask => nD (leastOf ask row)) (sz_of (by omega)) (fun ask ha m3 Q3 N3 sm3 hq3 => ⟨fun _ => ⟨_, rfl, _, rfl, rfl, _, ⟨ask, row, ok.b1 _ hm ask ha, ok.b2 _ hm ask ha, fun a haa => by rw [hl]; exact ok.there _ hm ask ha a haa, rfl, rfl⟩, hq3⟩, nofun⟩) ?_
    refine ⟨_, (asks.map fun ask => leastOf ask row).map fun x => ((x : Nat) : Int), rfl, ?_, ?_, fun k hk hmm => ?_⟩
    · rw [nats_D, List.map_map]; rfl
    · intro e
      have := congrArg List.length e
      rw [List.length_map, List.length_map] at this
      have : asks.length = 0 := this
      omega
    · rw [maxL_eq hk hmm]
      exact hq
  · refine ⟨_, _, rfl, rfl, m, SubM.refl m, ?_⟩
    unfold rowB at h
    rw [List.map_map] at h
    exact h

abbrev st_dearest : Stmt := topS 48
theorem sc_dearest : FnScope ["game", "asks", "answers", "price", "to"] ["game"] (defScope st_dearest) := ⟨rfl, rfl, rfl, by decide +kernel, rfl, by decide +kernel, by decide +kernel⟩
def sp_dearest : DSp := pureS 1 fun ds d => ∃ G, Game.Ok G ∧ ds = [gameD G] ∧ d = nD (dear G)
theorem ok_dearest {f : Addr} {fd : FuncData} (F : Fun K "dearest" "dearest" st_dearest f fd) (T : Txt mg)  : FnOk P w K mg base CX0 1 f fd ["game"] (spD K sp_dearest) := by
  refine fn_d F sc_dearest (fun _ _ _ h => h.1) fun cdv A outer s H E hr => ⟨_, (qss_one (qs_ret (q_callB (cr_max rfl) liftMaxL (by rfl) T.max (by decide +kernel) (qa_cons (q_lc3 (own := [("asks", 1), ("answers", 2), ("price", 3), ("to", 4)]) rfl sc_dearest.nd (qi_tup (qv 0)) (blkOk_by (by kernel_rfl)) (fun _ _ _ _ _ => (qg_name (i := 1) sc_dearest.nd rfl (by first | exact .inl rfl | exact .inr rfl))) (fun _ _ _ _ _ => (qi_tup (qv 1))) (fun _ _ _ _ _ => (qg_name (i := 2) sc_dearest.nd rfl (by first | exact .inl rfl | exact .inr rfl))) (fun _ _ _ _ _ => (qi_tup (qv 2))) (fun _ _ _ _ _ => (qg_tup (n := 2) rfl (qgs_cons (qg_name (i := 3) sc_dearest.nd rfl (by first | exact .inl rfl | exact .inr rfl)) (qgs_cons (qg_name (i := 4) sc_dearest.nd rfl (by first | exact .inl rfl | exact .inr rfl)) qgs_nil)))) (fun _ _ _ _ _ => (qv 3))) qa_nil)))), fun ds m Kd h => ?_⟩
  obtain ⟨_, _, ⟨G, ok, rfl, rfl⟩, h⟩ := h
  have hl : (G.flatMap fun asks => asks.flatMap fun ask => ask.flatMap fun a => [nD a.1]).length ≤ 648 := prices_len ok
  refine ⟨_, rfl, _, rfl, ?_⟩
  refine l3_app (f := fun asks => asks.flatMap fun ask => ask.flatMap fun a => [nD a.1]) (sz_of (by omega)) (fun p asks hm m2 acc N ha hl2 hN => ?_) ?_
  · refine ⟨_, rfl, _, rfl, ?_⟩
    refine cl_app (f := fun ask => ask.flatMap fun a => [nD a.1]) ha hl2 (fun ask haa m3 acc3 N3 ha3 hl3 hN3 => ?_) hN
    refine ⟨_, rfl, _, rfl, ?_⟩
    refine cl_app (f := fun a => [nD a.1]) ha3 hl3 (fun a haaa m4 acc4 N4 ha4 hl4 hN4 => ?_) hN3
    refine ⟨[nD a.1, nD a.2], rfl, rfl, ?_⟩
    refine ⟨_, _, rfl, ?_⟩
    refine ⟨_, _, rfl, ?_⟩
    refine ⟨rfl, ?_⟩
    rw [List.length_singleton] at hl4
    refine ⟨nD a.1, get34 (by simp only [wipeD_length, List.length_set]; rfl), ?_⟩
    exact ⟨acc4, ha4, Nat.lt_of_succ_le hl4, hN4⟩
  · refine ⟨_, (G.flatMap fun asks => asks.flatMap fun ask => ask.map (·.1)).map fun x => ((x : Nat) : Int), rfl, ?_, ?_, fun k hk hm => ?_⟩
    · rw [nats_D]
      exact congrArg D.lst (prices_eq G)
    · intro e
      have e2 := congrArg List.length e
      rw [List.length_map] at e2
      obtain ⟨asks, G', eG⟩ : ∃ a l, G = a :: l := by
        cases hG : G with
        | nil => have := ok.g1; rw [hG] at this; cases this
        | cons a l => exact ⟨a, l, rfl⟩
      have hm : asks ∈ G := by rw [eG]; exact List.mem_cons_self ..
      obtain ⟨ask, as', ea⟩ : ∃ a l, asks = a :: l := by
        cases hA : asks with
        | nil => have := ok.a1 _ hm; rw [hA] at this; cases this
        | cons a l => exact ⟨a, l, rfl⟩
      have hma : ask ∈ asks := by rw [ea]; exact List.mem_cons_self ..
      have hb := ok.b1 _ hm ask hma
      rw [eG, List.flatMap_cons, List.length_append, ea, List.flatMap_cons, List.length_append, List.length_map] at e2
      have e2 : _ = 0 := e2
      omega
    · rw [maxL_eq hk hm]
      exact ⟨m, SubM.refl m, h⟩

abbrev st_need_narrow : Stmt := topS 49
theorem sc_need_narrow : FnScope ["game"] ["game"] (defScope st_need_narrow) := ⟨rfl, rfl, rfl, by decide +kernel, rfl, by decide +kernel, by decide +kernel⟩
def sp_need_narrow : DSp := pureS 1 fun ds d => ∃ G, Game.Ok G ∧ G.length * dear G ≤ 120 ∧ ds = [gameD G] ∧ d = .non
theorem ok_need_narrow {f : Addr} {fd : FuncData} (F : Fun K "need_narrow" "need_narrow" st_need_narrow f fd) (T : Txt mg) (G_dearest : Fd P w K mg base 1 "dearest" ["game"] sp_dearest) : FnOk P w K mg base CX0 2 f fd ["game"] (spD K sp_need_narrow) := by
  refine fn_d F sc_need_narrow (fun _ _ _ h => h.1) fun cdv A outer s H E hr => ⟨_, (qss_one (qs_if (qt_cmp op_gt liftB0 (q_op op_mul liftI (q_callB call_lenA liftLen (by rfl) T.len (by decide +kernel) (qa_cons (qv 0) qa_nil)) (q_fd G_dearest (hr.mono (by decide)) (by rfl) (qa_cons (qv 0) qa_nil))) (q_gi (by rfl) T.gBROAD) (nomark _))
 (qss_one qs_never)
 qss_nil)), fun ds m Kd h => ?_⟩
  obtain ⟨_, _, ⟨G, ok, hl, rfl, rfl⟩, h⟩ := h
  have g2 := ok.g2
  refine ⟨_, rfl, _, G.length, rfl, by show some (List.length _) = _; rw [List.length_map], _, rfl, rfl, _, ⟨G, ok, rfl, rfl⟩, _, _, rfl, rfl, .inl ⟨by omega, by omega⟩, _, _, rfl, rfl, _, rfl, fun e => ?_, fun _ => ⟨m, SubM.refl m, h⟩⟩
  have e := of_decide_eq_true e
  have : ((G.length * dear G : Nat) : Int) > 120 := by
    rw [Int.natCast_mul]
    exact e
  omega
end
end MW

end
section
set_option Elab.async false
set_option linter.all false
set_option maxRecDepth 100000
set_option pp.maxSteps 400
/-! MwLev: levels and totals (plain). -/
namespace MW
open PySem PySem.Spec PyProof.Rows L2
abbrev Lv := Nat → Bool
def nol : Lv := fun _ => false
def metA (S : Lv) (L : List Lv) (a : Nat × Nat) : Bool := (decide (a.1 = 0) && S a.2) || ((decide (0 < a.1) && decide (a.1 ≤ L.length)) && (L.getD (L.length - a.1) nol) a.2)
def metB (S : Lv) (L : List Lv) (ask : Ask) : Bool := ask.any (metA S L)
def metP (G : Game) (i : Nat) : Bool := decide (G.getD i [] = [[(0, i)]])
def nextLv (G : Game) (L : List Lv) : Lv := fun i => metP G i || (G.getD i []).all (metB nol L)
def levs (G : Game) : Nat → List Lv
  | 0 => []
  | k + 1 => levs G k ++ [nextLv G (levs G k)]
abbrev lev (G : Game) (k : Nat) : Lv := nextLv G (levs G k)
theorem levs_len (G : Game) : ∀ k, (levs G k).length = k
  | 0 => rfl
  | k + 1 => by show (levs G k ++ [nextLv G (levs G k)]).length = _; rw [List.length_append, levs_len G k]; rfl
theorem levs_get (G : Game) : ∀ {k i : Nat}, i < k → (levs G k)[i]? = some (lev G i)
  | k + 1, i, h => by
    show (levs G k ++ [nextLv G (levs G k)])[i]? = _
    by_cases e : i < k
    · rw [List.getElem?_append_left (by rw [levs_len]; exact e)]
      exact levs_get G e
    · have : i = k := by omega
      subst this
      rw [List.getElem?_append_right (by rw [levs_len]; exact Nat.le_refl _), levs_len, Nat.sub_self]
      rfl
theorem getD_at {α : Type} {l : List α} {i : Nat} {x d : α} (h : l[i]? = some x) : l.getD i d = x := by rw [List.getD_eq_getElem?_getD, h]; rfl
theorem metA_lev {G : Game} {k : Nat} {a : Nat × Nat} (h : 1 ≤ a.1) : metA nol (levs G k) a = true ↔ a.1 ≤ k ∧ lev G (k - a.1) a.2 = true := by
  unfold metA
  rw [levs_len, decF (show ¬ a.1 = 0 by omega), decT (show 0 < a.1 by omega), Bool.false_and, Bool.false_or, Bool.true_and, Bool.and_eq_true, decide_eq_true_iff]
  constructor
  · rintro ⟨h1, h2⟩
    rw [getD_at (levs_get G (by omega))] at h2
    exact ⟨h1, h2⟩
  · rintro ⟨h1, h2⟩
    refine ⟨h1, ?_⟩
    rw [getD_at (levs_get G (by omega))]
    exact h2
/-- prices of an unmet position -/
theorem Game.Ok.pos {G : Game} (ok : G.Ok) {i : Nat} (hi : i < G.length) (h : metP G i = false) : ∀ ask ∈ G.getD i [], ∀ a ∈ ask, 1 ≤ a.1 := by
  have e : G[i]? = some G[i] := List.getElem?_eq_getElem hi
  have e2 : G.getD i [] = G[i] := getD_at e
  rw [e2]
  rcases ok.shape i _ e with z | z
  · unfold metP at h
    rw [e2] at h
    exact absurd z (of_decide_eq_false h)
  · exact z
theorem getD_mem {G : Game} {i : Nat} (hi : i < G.length) : G.getD i [] ∈ G := by
  rw [getD_at (List.getElem?_eq_getElem hi)]
  exact List.getElem_mem hi
theorem lev_iff {G : Game} (ok : G.Ok) {k i : Nat} (hi : i < G.length) : lev G k i = true ↔ metP G i = true ∨ ∀ ask ∈ G.getD i [], ∃ a ∈ ask, 1 ≤ a.1 ∧ a.1 ≤ k ∧ lev G (k - a.1) a.2 = true := by
  unfold lev nextLv
  rw [Bool.or_eq_true]
  cases e : metP G i with
  | true => exact ⟨fun _ => .inl rfl, fun _ => .inl rfl⟩
  | false =>
    have pos := ok.pos hi e
    constructor
    · rintro (h | h)
      · cases h
      · refine .inr fun ask ha => ?_
        obtain ⟨a, haa, h1⟩ := List.any_eq_true.mp (List.all_eq_true.mp h ask ha)
        have p1 := pos ask ha a haa
        obtain ⟨h2, h3⟩ := (metA_lev p1).mp h1
        exact ⟨a, haa, p1, h2, h3⟩
    · rintro (h | h)
      · cases h
      · refine .inr (List.all_eq_true.mpr fun ask ha => ?_)
        obtain ⟨a, haa, p1, h2, h3⟩ := h ask ha
        exact List.any_eq_true.mpr ⟨a, haa, (metA_lev p1).mpr ⟨h2, h3⟩⟩
theorem lev_mono {G : Game} (ok : G.Ok) : ∀ {k k' i : Nat}, k ≤ k' → i < G.length → lev G k i = true → lev G k' i = true := by
  intro k
  induction k using Nat.strongRecOn with
  | ind k ih =>
    intro k' i hk hi h
    rw [lev_iff ok hi] at h ⊢
    refine h.imp id fun h ask ha => ?_
    obtain ⟨a, haa, p1, h2, h3⟩ := h ask ha
    exact ⟨a, haa, p1, by omega, ih (k - a.1) (by omega) (by omega) (ok.there _ (getD_mem hi) ask ha a haa) h3⟩
theorem lev_zero {G : Game} (ok : G.Ok) {i : Nat} (hi : i < G.length) : lev G 0 i = metP G i := by
  cases e : metP G i with
  | true => exact (lev_iff ok hi).mpr (.inl e)
  | false =>
    refine Bool.eq_false_iff.mpr fun z => ?_
    rcases (lev_iff ok hi).mp z with z | z
    · rw [e] at z; cases z
    · have hm := getD_mem hi
      have h1 := ok.a1 _ hm
      obtain ⟨ask, l, ea⟩ : ∃ a l, G.getD i [] = a :: l := by
        cases hA : G.getD i [] with
        | nil => rw [hA] at h1; cases h1
        | cons a l => exact ⟨a, l, rfl⟩
      obtain ⟨a, _, p1, p2, _⟩ := z ask (by rw [ea]; exact List.mem_cons_self ..)
      omega
/-- no met position, no level -/
theorem lev_none {G : Game} (ok : G.Ok) (h : ∀ i < G.length, metP G i = false) : ∀ {k i : Nat}, i < G.length → lev G k i = false := by
  intro k
  induction k using Nat.strongRecOn with
  | ind k ih =>
    intro i hi
    refine Bool.eq_false_iff.mpr fun z => ?_
    rcases (lev_iff ok hi).mp z with z | z
    · rw [h i hi] at z; cases z
    · have hm := getD_mem hi
      have h1 := ok.a1 _ hm
      obtain ⟨ask, l, ea⟩ : ∃ a l, G.getD i [] = a :: l := by
        cases hA : G.getD i [] with
        | nil => rw [hA] at h1; cases h1
        | cons a l => exact ⟨a, l, rfl⟩
      have ham : ask ∈ G.getD i [] := by rw [ea]; exact List.mem_cons_self ..
      obtain ⟨a, haa, p1, p2, p3⟩ := z ask ham
      rw [ih (k - a.1) (by omega) (ok.there _ hm ask ham a haa)] at p3
      cases p3
theorem price_dear {G : Game} {asks : List Ask} {ask : Ask} {a : Nat × Nat} (h1 : asks ∈ G) (h2 : ask ∈ asks) (h3 : a ∈ ask) : a.1 ≤ dear G :=
  maxL_le (List.mem_flatMap.mpr ⟨asks, h1, List.mem_flatMap.mpr ⟨ask, h2, List.mem_map.mpr ⟨a, h3, rfl⟩⟩⟩)
/-- levels that have not grown for as long as the dearest price grow no more -/
theorem lev_stable {G : Game} (ok : G.Ok) {last : Nat} (h : ∀ j, last ≤ j → j ≤ last + dear G → ∀ i < G.length, lev G j i = lev G last i) : ∀ j, last ≤ j → ∀ i < G.length, lev G j i = lev G last i := by
  intro j
  induction j using Nat.strongRecOn with
  | ind j ih =>
    intro hj i hi
    by_cases e : j ≤ last + dear G
    · exact h j hj e i hi
    · have prev := ih (j - 1) (by omega) (by omega) i hi
      rw [← prev]
      have hm := getD_mem hi
      refine Bool.eq_iff_iff.mpr ?_
      rw [lev_iff ok hi, lev_iff ok hi]
      refine or_congr Iff.rfl ⟨fun z ask ha => ?_, fun z ask ha => ?_⟩
      · obtain ⟨a, haa, p1, p2, p3⟩ := z ask ha
        have hd := price_dear hm ha haa
        have ht := ok.there _ hm ask ha a haa
        refine ⟨a, haa, p1, by omega, ?_⟩
        rw [ih (j - a.1) (by omega) (by omega) _ ht] at p3
        rw [ih (j - 1 - a.1) (by omega) (by omega) _ ht]
        exact p3
      · obtain ⟨a, haa, p1, p2, p3⟩ := z ask ha
        have hd := price_dear hm ha haa
        have ht := ok.there _ hm ask ha a haa
        refine ⟨a, haa, p1, by omega, ?_⟩
        rw [ih (j - 1 - a.1) (by omega) (by omega) _ ht] at p3
        rw [ih (j - a.1) (by omega) (by omega) _ ht]
        exact p3
/-- t tells the totals -/
structure IsTot (G : Game) (t : Nat → Option Nat) : Prop where
  least : ∀ i < G.length, ∀ k, t i = some k → lev G k i = true ∧ ∀ j < k, lev G j i = false
  none : ∀ i < G.length, t i = none → ∀ k, lev G k i = false
end MW

end
section
set_option Elab.async false
set_option linter.all false
set_option maxRecDepth 100000
set_option pp.maxSteps 400
/-! MwF: games/totals: is_met, level_behind, totals_of. -/
namespace MW
open PySem PySem.Spec PyProof.Rows L2
/-- a level as a dict -/
def lvL (n : Nat) (S : Lv) : List Nat := (List.range n).filter S
def lvD (n : Nat) (S : Lv) : D := .dI (natD (lvL n S) fun _ => .bl true)
theorem lv_mem {n : Nat} {S : Lv} {t : Nat} (h : t < n) : memD (lvD n S) (nD t) = some (S t) := by
  show some (getI (natD (lvL n S) fun _ => .bl true) (t : Nat)).isSome = _
  rw [mem_nat]
  congr 1
  unfold lvL
  cases e : S t with
  | true => exact decT (List.mem_filter.mpr ⟨List.mem_range.mpr h, e⟩)
  | false => exact decF fun z => by rw [(List.mem_filter.mp z).2] at e; cases e
theorem lvL_len {n : Nat} {S : Lv} : (lvL n S).length ≤ n := by
  have := List.length_filter_le S (List.range n)
  rw [List.length_range] at this
  exact this
theorem lvL_congr {n : Nat} {S S' : Lv} (h : ∀ i < n, S i = S' i) : lvL n S = lvL n S' := List.filter_congr fun i hi => h i (List.mem_range.mp hi)
theorem lvL_all {n : Nat} : lvL n (fun _ => true) = List.range n := List.filter_eq_self.mpr fun _ _ => rfl
section
variable {P : Program} {w : World} {K : PySem.W.Frag} {mg : Str → Option Value} {base : Heap}

abbrev st_is_met : Stmt := topS 51
theorem sc_is_met : FnScope ["ask", "owed", "stands", "levels", "price", "there"] ["ask", "owed", "stands", "levels"] (defScope st_is_met) := ⟨rfl, rfl, rfl, by decide +kernel, rfl, by decide +kernel, by decide +kernel⟩
def sp_is_met : DSp := fun ds m Kd => ds.length = 4 ∧ ∃ n ask S L p, ds = [askD ask, nD L.length, lvD n S, .ref p] ∧ m p = some (.lst (L.map (lvD n))) ∧ (∀ a ∈ ask, a.2 < n) ∧ Kd (.bl (metB S L ask)) m
theorem ok_is_met {f : Addr} {fd : FuncData} (F : Fun K "is_met" "is_met" st_is_met f fd) (T : Txt mg)  : FnOk P w K mg base CX0 1 f fd ["ask", "owed", "stands", "levels"] (spD K sp_is_met) := by
  refine fn_d F sc_is_met (fun _ _ _ h => h.1) fun cdv A outer s H E hr => ⟨_, (qss_cons (qs_for (vs := [4, 5]) PassesOwn.never rfl (qi_tup (qv 0)) (qg_tup (n := 2) rfl (qgs_cons (qg_name (i := 4) sc_is_met.nd rfl (by first | exact .inl rfl | exact .inr rfl)) (qgs_cons (qg_name (i := 5) sc_is_met.nd rfl (by first | exact .inl rfl | exact .inr rfl)) qgs_nil)))
 (qss_cons (qs_if (PW.pt (qw_and (qt_cmp (op_eqD hr.units) liftEq (qv 4) q_int (nomark _)) (qw_and1 (qt_cmp (op_inA (hu_of hr)) (liftIn false) (qv 5) (qv 2) (by rfl)))))
 (qss_one (qs_ret q_bl))
 qss_nil)
 (qss_one (qs_if (PW.pt (qw_and (qt_chain op_lt op_le liftB0 liftB0 q_int (qv 4) (qv 1)) (qw_and1 (qt_cmp (op_inA (hu_of hr)) (liftIn false) (qv 5) (q_ix (qv 3) (q_op op_sub liftI0 (qv 1) (qv 4))) (by rfl)))))
 (qss_one (qs_ret q_bl))
 qss_nil))))
 (qss_one (qs_ret q_bl))), fun ds m Kd h => ?_⟩
  obtain ⟨_, n, ask, S, L, p, rfl, hp, ht, h⟩ := h
  refine ⟨_, rfl, _, rfl, ?_⟩
  refine for_T (fun i δ m' => m' = m ∧ (∃ x y, δ = [some (askD ask), some (nD L.length), some (lvD n S), some (.ref p), x, y]) ∧ ∀ a ∈ ask.take i, metA S L a = false) ⟨rfl, ⟨_, _, rfl⟩, fun a ha => absurd ha (by simp)⟩ ?_ ?_
  · rintro i a δ m' hy ⟨rfl, ⟨x, y, rfl⟩, hno⟩
    have ham := List.mem_of_getElem? hy
    have hta := ht a ham
    have yes : metA S L a = true → metB S L ask = true := fun e => List.any_eq_true.mpr ⟨a, ham, e⟩
    have goon : metA S L a = false → ∀ b ∈ ask.take (i + 1), metA S L b = false := fun e b hb => by
      rw [take_succ hy] at hb
      rcases List.mem_append.mp hb with hb | hb
      · exact hno b hb
      · rw [List.mem_singleton.mp hb]; exact e
    refine ⟨_, rfl, rfl, _, _, rfl, _, _, rfl, rfl, ?_⟩
    by_cases h0 : a.1 = 0
    · have e0 : eqD (.int (a.1 : Nat)) (.int (0 : Nat)) = true := by rw [eqD_nat]; exact decT h0
      have e1 : metA S L a = S a.2 := by
        unfold metA
        rw [decT h0, decF (show ¬ 0 < a.1 by omega)]
        simp
      refine ⟨_, rfl, rfl, rfl, _, rfl, fun _ => ?_, fun e => absurd (e0.symm.trans e) (by decide)⟩
      refine ⟨_, rfl, _, rfl, _, lv_mem hta, _, rfl, fun e => ?_, fun e => ?_⟩
      · rw [yes (e1.trans e)] at h
        exact ⟨_, SubM.refl _, h⟩
      · refine ⟨_, rfl, 0, _, rfl, rfl, _, rfl, fun e2 => ?_, fun _ => ⟨_, rfl, nofun, fun _ => ⟨nofun, fun _ => ⟨rfl, ⟨_, _, rfl⟩, goon (e1.trans e)⟩⟩⟩⟩
        have := of_decide_eq_true e2
        omega
    · have e0 : eqD (.int (a.1 : Nat)) (.int (0 : Nat)) = false := by rw [eqD_nat]; exact decF h0
      refine ⟨_, rfl, rfl, rfl, _, rfl, fun e => absurd (e0.symm.trans e) (by decide), fun _ => ⟨nofun, fun _ => ?_⟩⟩
      refine ⟨_, rfl, 0, _, rfl, rfl, _, rfl, fun _ => ?_, fun e => ?_⟩
      · refine ⟨_, rfl, (a.1 : Nat), (L.length : Nat), rfl, rfl, _, rfl, fun e => ?_, fun e => ?_⟩
        · have hle : a.1 ≤ L.length := by have := of_decide_eq_true e; omega
          have hlt : L.length - a.1 < L.length := by omega
          have e1 : metA S L a = (L.getD (L.length - a.1) nol) a.2 := by
            unfold metA
            rw [decF h0, decT (show 0 < a.1 by omega), decT hle]
            simp
          have el : (((L.length : Nat) : Int) - (a.1 : Nat)) = ((L.length - a.1 : Nat) : Int) := by omega
          have lk : look m' (.ref p) = .lst (L.map (lvD n)) := by
            show (m' p).getD _ = _
            rw [hp]
            rfl
          have at1 : atI (L.map (lvD n)) (((L.length : Nat) : Int) - (a.1 : Nat)) = some (lvD n (L.getD (L.length - a.1) nol)) := by
            rw [el]
            refine atI_nat ?_
            rw [List.getElem?_map, List.getElem?_eq_getElem hlt, getD_at (List.getElem?_eq_getElem hlt)]
            rfl
          refine ⟨_, rfl, _, rfl, _, rfl, _, rfl, _, _, rfl, rfl, _, _, _, by rw [lk]; rfl, rfl, at1, _, lv_mem hta, _, rfl, fun e2 => ?_, fun e2 => ?_⟩
          · rw [yes (e1.trans e2)] at h
            exact ⟨_, SubM.refl _, h⟩
          · exact ⟨rfl, ⟨_, _, rfl⟩, goon (e1.trans e2)⟩
        · have hle : ¬ a.1 ≤ L.length := by have := of_decide_eq_false e; omega
          refine ⟨nofun, fun _ => ⟨rfl, ⟨_, _, rfl⟩, goon ?_⟩⟩
          unfold metA
          rw [decF h0, decF hle]
          simp
      · have := of_decide_eq_false e
        omega
  · rintro δ m' ⟨rfl, ⟨x, y, rfl⟩, hno⟩
    rw [List.take_length] at hno
    have e : metB S L ask = false := List.any_eq_false.mpr fun a ha => by rw [hno a ha]; exact Bool.false_ne_true
    rw [e] at h
    exact ⟨_, SubM.refl _, h⟩

/-- one pass over the positions -/
def stepB (G : Game) (L : List Lv) (S : Lv) : Lv := fun i => S i && (G.getD i []).all (metB S L)
theorem metB_pos {ask : Ask} {S : Lv} {L : List Lv} (h : ∀ a ∈ ask, 1 ≤ a.1) : metB S L ask = metB nol L ask := by
  unfold metB
  refine Bool.eq_iff_iff.mpr ?_
  have e : ∀ a ∈ ask, metA S L a = metA nol L a := fun a ha => by
    unfold metA
    rw [decF (show ¬ a.1 = 0 by have := h a ha; omega)]
    rfl
  rw [List.any_eq_true, List.any_eq_true]
  exact ⟨fun ⟨a, ha, z⟩ => ⟨a, ha, by rw [← e a ha]; exact z⟩, fun ⟨a, ha, z⟩ => ⟨a, ha, by rw [e a ha]; exact z⟩⟩
theorem met_all {G : Game} {i : Nat} {S : Lv} {L : List Lv} (h : metP G i = true) : (G.getD i []).all (metB S L) = S i := by
  have e : G.getD i [] = [[(0, i)]] := of_decide_eq_true h
  rw [e]
  cases e2 : S i <;> simp [metB, metA, e2]
theorem un_all {G : Game} (ok : G.Ok) {i : Nat} (hi : i < G.length) {S : Lv} {L : List Lv} (h : metP G i = false) : (G.getD i []).all (metB S L) = (G.getD i []).all (metB nol L) := by
  have pos := ok.pos hi h
  refine Bool.eq_iff_iff.mpr ?_
  rw [List.all_eq_true, List.all_eq_true]
  exact ⟨fun z ask ha => by rw [← metB_pos (pos ask ha)]; exact z ask ha, fun z ask ha => by rw [metB_pos (pos ask ha)]; exact z ask ha⟩
theorem step_top {G : Game} (ok : G.Ok) {L : List Lv} {i : Nat} (hi : i < G.length) : stepB G L (fun _ => true) i = nextLv G L i := by
  unfold stepB nextLv
  cases e : metP G i with
  | true => rw [met_all e]; rfl
  | false => rw [un_all ok hi e]; rfl
theorem step_next {G : Game} (ok : G.Ok) {L : List Lv} {i : Nat} (hi : i < G.length) : stepB G L (nextLv G L) i = nextLv G L i := by
  unfold stepB
  cases e : metP G i with
  | true => rw [met_all e, Bool.and_self]
  | false =>
    rw [un_all ok hi e]
    unfold nextLv
    rw [e, Bool.false_or, Bool.and_self]
abbrev st_level_behind : Stmt := topS 52
theorem sc_level_behind : FnScope ["game", "levels", "owed", "stands", "many", "at", "ask"] ["game", "levels"] (defScope st_level_behind) := ⟨rfl, rfl, rfl, by decide +kernel, rfl, by decide +kernel, by decide +kernel⟩
def sp_level_behind : DSp := fun ds m Kd => ds.length = 2 ∧ ∃ G L p, Game.Ok G ∧ L.length ≤ 10000 ∧ ds = [gameD G, .ref p] ∧ m p = some (.lst (L.map (lvD G.length))) ∧ Kd (lvD G.length (nextLv G L)) m
theorem ok_level_behind {f : Addr} {fd : FuncData} (F : Fun K "level_behind" "level_behind" st_level_behind f fd) (T : Txt mg) (G_is_met : Fd P w K mg base 1 "is_met" ["ask", "owed", "stands", "levels"] sp_is_met) : FnOk P w K mg base CX0 2 f fd ["game", "levels"] (spD K sp_level_behind) := by
  refine fn_d F sc_level_behind (fun _ _ _ h => h.1) fun cdv A outer s H E hr => ⟨_, (qss_cons (qs_set (i := 2) sc_level_behind.nd rfl (by first | exact .inl rfl | exact .inr rfl) (q_callB call_lenA liftLen (by rfl) T.len (by decide +kernel) (qa_cons (qv 1) qa_nil)))
 (qss_cons (qs_set (i := 3) sc_level_behind.nd rfl (by first | exact .inl rfl | exact .inr rfl) (q_dc (own := [("at", 5)]) rfl sc_level_behind.nd (qi_range (by rfl) T.rng (qa_cons (q_callB call_lenA liftLen (by rfl) T.len (by decide +kernel) (qa_cons (qv 0) qa_nil)) qa_nil)) (blkOk_by (by kernel_rfl)) (fun _ _ _ _ _ => (qg_name (i := 5) sc_level_behind.nd rfl (by first | exact .inl rfl | exact .inr rfl))) (fun _ _ _ _ _ => qts_nil) (fun _ _ _ _ _ => (qv 5)) (fun _ _ _ _ _ => q_bl)))
 (qss_cons (qs_set (i := 4) sc_level_behind.nd rfl (by first | exact .inl rfl | exact .inr rfl) (q_op op_add liftI0 (q_callB call_lenA liftLen (by rfl) T.len (by decide +kernel) (qa_cons (qv 0) qa_nil)) q_int))
 (qss_cons (qs_while PassesOwn.never (qt_cmp op_lt liftB0 (q_callB call_lenA liftLen (by rfl) T.len (by decide +kernel) (qa_cons (qv 3) qa_nil)) (qv 4) (nomark _))
 (qss_cons (qs_set (i := 4) sc_level_behind.nd rfl (by first | exact .inl rfl | exact .inr rfl) (q_callB call_lenA liftLen (by rfl) T.len (by decide +kernel) (qa_cons (qv 3) qa_nil)))
 (qss_one (qs_set (i := 3) sc_level_behind.nd rfl (by first | exact .inl rfl | exact .inr rfl) (q_dc (own := [("at", 5)]) rfl sc_level_behind.nd (qi_keysI (qv 3)) (blkOk_by (by kernel_rfl)) (fun _ _ _ _ _ => (qg_name (i := 5) sc_level_behind.nd rfl (by first | exact .inl rfl | exact .inr rfl))) (fun _ _ _ _ _ => (qts_one (qt_val (q_callB (cr_all rfl) liftAll (by rfl) T.all (by decide +kernel) (qa_cons (q_lc (own := [("ask", 6)]) rfl sc_level_behind.nd (qi_tup (q_ix (qv 0) (qv 5))) (blkOk_by (by kernel_rfl)) (fun _ _ _ _ _ => (qg_name (i := 6) sc_level_behind.nd rfl (by first | exact .inl rfl | exact .inr rfl))) (fun _ _ _ _ _ => qts_nil) (fun _ _ _ _ _ => (q_fd G_is_met (hr.mono (by decide)) (by rfl) (qa_cons (qv 6) (qa_cons (qv 2) (qa_cons (qv 3) (qa_cons (qv 1) qa_nil))))))) qa_nil))))) (fun _ _ _ _ _ => (qv 5)) (fun _ _ _ _ _ => q_bl))))))
 (qss_one (qs_ret (qv 3))))))), fun ds m Kd h => ?_⟩
  obtain ⟨_, G, L, p, ok, hL, rfl, hp, h⟩ := h
  have g2 := ok.g2
  have lk : lenD (look m (.ref p)) = some L.length := by
    show lenD ((m p).getD _) = _
    rw [hp]
    show some (List.length _) = _
    rw [List.length_map]
  have lg : lenD (look m (gameD G)) = some G.length := by show some (List.length _) = _; rw [List.length_map]
  refine ⟨_, rfl, _, _, rfl, lk, ?_⟩
  refine ⟨_, rfl, _, _, rfl, lg, _, rfl, by omega, by omega, ?_⟩
  rw [rg0, Int.toNat_natCast]
  refine dc_map (k := fun y => ((y : Nat) : Int)) (g := fun _ => .bl true) (szR _ (by omega)) (nat_nd List.nodup_range) (fun y hy m2 Q N sm hq => ⟨fun _ => ⟨_, rfl, _, rfl, hq⟩, nofun⟩) ?_
  refine ⟨_, rfl, _, _, rfl, lg, _, _, rfl, rfl, ?_⟩
  have pass : ∀ (S : Lv) (S' : Lv), (∀ i < G.length, stepB G L S i = S' i) → ((lvL G.length S).filter fun i => (G.getD i []).all (metB S L)) = lvL G.length S' := fun S S' e => by
    unfold lvL
    rw [List.filter_filter]
    refine List.filter_congr fun i hi => ?_
    rw [← e i (List.mem_range.mp hi)]
    unfold stepB
    rw [Bool.and_comm]
  refine ⟨fun n δ m' => m' = m ∧ ∃ S many x5 x6, δ = [some (gameD G), some (.ref p), some (nD L.length), some (lvD G.length S), some (.int many), x5, x6] ∧
    ((n = 3 ∧ S = (fun _ => true) ∧ many = (G.length : Nat) + 1) ∨ (n = 2 ∧ S = nextLv G L ∧ many = (G.length : Nat)) ∨ (n = 1 ∧ S = nextLv G L ∧ many = ((lvL G.length S).length : Nat))), ⟨3, rfl, fun _ => true, _, _, _, by unfold lvD; rw [lvL_all]; rfl, .inl ⟨rfl, rfl, rfl⟩⟩, ?_⟩
  rintro n δ m' ⟨rfl, S, many, x5, x6, rfl, hc⟩
  have ll : lenD (look m' (lvD G.length S)) = some (lvL G.length S).length := by show some (List.length _) = _; rw [List.length_map]
  have hle := lvL_len (n := G.length) (S := S)
  refine ⟨_, rfl, _, _, rfl, ll, _, rfl, _, _, rfl, rfl, _, rfl, fun e => ?_, fun e => ?_⟩
  · have e := of_decide_eq_true e
    refine ⟨_, rfl, _, _, rfl, ll, ?_⟩
    refine ⟨_, rfl, _, rfl, ?_⟩
    rw [List.map_map]
    refine dc_filt (ys := lvL G.length S) (enc := nD) (k := fun y => ((y : Nat) : Int)) (g := fun _ => .bl true) (p := fun i => (G.getD i []).all (metB S L)) (sz_of (by omega)) (nat_nd (List.nodup_range.sublist List.filter_sublist)) (fun i hi m2 Q N sm hq hn => ?_) ?_
    · have hi := List.mem_range.mp (List.mem_filter.mp hi).1
      have hm := getD_mem hi
      have hp2 : m2 p = some (.lst (L.map (lvD G.length))) := sm p _ hp
      refine ⟨_, rfl, _, rfl, _, _, posD (G.getD i []), rfl, rfl, atI_nat (by rw [List.getElem?_map, List.getElem?_eq_getElem hi, getD_at (List.getElem?_eq_getElem hi)]; rfl), _, rfl, ?_⟩
      refine lc_map (ys := G.getD i []) (enc := askD) (g := fun ask => .bl (metB S L ask)) (sz_of (by have := ok.a2 _ hm; omega)) (fun ask ha m3 Q3 N3 sm3 hq3 => ⟨fun _ => ⟨_, rfl, _, rfl, _, rfl, _, rfl, rfl, G.length, ask, S, L, p, rfl, sm3 p _ hp2, fun a haa => ok.there _ hm ask ha a haa, hq3⟩, nofun⟩) ?_
      refine ⟨_, (G.getD i []).map (metB S L), rfl, bls, ?_⟩
      rw [List.all_map]
      exact ⟨_, rfl, fun e => ⟨_, rfl, _, rfl, hq e⟩, fun e => hn e⟩
    · rcases hc with ⟨rfl, rfl, rfl⟩ | ⟨rfl, rfl, rfl⟩ | ⟨rfl, rfl, rfl⟩
      · rw [pass _ _ fun i hi => step_top ok hi]
        rw [lvL_all, List.length_range]
        exact ⟨2, by decide, rfl, nextLv G L, _, _, _, rfl, .inr (.inl ⟨rfl, rfl, rfl⟩)⟩
      · rw [pass _ _ fun i hi => step_next ok hi]
        exact ⟨1, by decide, rfl, nextLv G L, _, _, _, rfl, .inr (.inr ⟨rfl, rfl, rfl⟩)⟩
      · omega
  · have e := of_decide_eq_false e
    refine ⟨_, rfl, m', SubM.refl m', ?_⟩
    rcases hc with ⟨rfl, rfl, rfl⟩ | ⟨rfl, rfl, rfl⟩ | ⟨rfl, rfl, rfl⟩
    · omega
    · exact h
    · exact h
end
end MW

end
section
set_option Elab.async false
set_option linter.all false
set_option maxRecDepth 100000
set_option pp.maxSteps 400
/-! MwTot: games/totals: totals_of. -/
namespace MW
open PySem PySem.Spec PyProof.Rows L2
def firstK (p : Nat → Bool) : Nat → Nat
  | 0 => 0
  | n + 1 => if p (firstK p n) = true then firstK p n else n + 1
theorem firstK_le (p : Nat → Bool) : ∀ n, firstK p n ≤ n
  | 0 => Nat.le_refl _
  | n + 1 => by
    unfold firstK
    split
    · exact Nat.le_succ_of_le (firstK_le p n)
    · exact Nat.le_refl _
theorem firstK_yes {p : Nat → Bool} : ∀ {n j : Nat}, j ≤ n → p j = true → p (firstK p n) = true
  | 0, j, h, hp => by
    have : j = 0 := by omega
    subst this
    exact hp
  | n + 1, j, h, hp => by
    unfold firstK
    split
    · assumption
    · rename_i h2
      by_cases e : j ≤ n
      · exact absurd (firstK_yes e hp) h2
      · have : j = n + 1 := by omega
        subst this
        exact hp
theorem firstK_no {p : Nat → Bool} : ∀ {n j : Nat}, j < firstK p n → p j = false
  | 0, j, h => absurd h (Nat.not_lt_zero j)
  | n + 1, j, h => by
    unfold firstK at h
    split at h
    · exact firstK_no h
    · rename_i h2
      refine Bool.eq_false_iff.mpr fun z => h2 (firstK_yes (n := n) (j := j) (by omega) z)
theorem firstK_eq {p : Nat → Bool} {n k : Nat} (hk : k ≤ n) (h : p k = true) (hn : ∀ j < k, p j = false) : firstK p n = k := by
  have h1 := firstK_yes hk h
  rcases Nat.lt_trichotomy (firstK p n) k with e | e | e
  · rw [hn _ e] at h1; cases h1
  · exact e
  · rw [firstK_no e] at h; cases h
theorem maxL_bound {n : Nat} : ∀ {l : List Nat}, (∀ x ∈ l, x ≤ n) → maxL l ≤ n
  | [], _ => Nat.zero_le _
  | x :: l, h => Nat.max_le.mpr ⟨h x (List.mem_cons_self ..), maxL_bound fun y hy => h y (List.mem_cons_of_mem _ hy)⟩
theorem dear_le {G : Game} {n : Nat} (h : ∀ asks ∈ G, ∀ ask ∈ asks, ∀ a ∈ ask, a.1 ≤ n) : dear G ≤ n := maxL_bound fun x hx => by
  obtain ⟨asks, h1, h2⟩ := List.mem_flatMap.mp hx
  obtain ⟨ask, h3, h4⟩ := List.mem_flatMap.mp h2
  obtain ⟨a, h5, e⟩ := List.mem_map.mp h4
  subst e
  exact h asks h1 ask h3 a h5
theorem sub_len {α : Type} [DecidableEq α] : ∀ {l k : List α}, l.Nodup → (∀ x ∈ l, x ∈ k) → l.length ≤ k.length
  | [], _, _, _ => Nat.zero_le _
  | x :: l, k, nd, h => by
    obtain ⟨n1, n2⟩ := List.nodup_cons.mp nd
    have hx := h x (List.mem_cons_self ..)
    have := sub_len (l := l) (k := k.erase x) n2 fun y hy => (List.mem_erase_of_ne (fun e => n1 (by rw [← e]; exact hy) : y ≠ x)).mpr (h y (List.mem_cons_of_mem _ hy))
    rw [List.length_erase_of_mem hx] at this
    have := List.length_pos_of_mem hx
    rw [List.length_cons]
    omega
theorem sub_all {α : Type} [DecidableEq α] {l k : List α} (nd : l.Nodup) (h : ∀ x ∈ l, x ∈ k) (hl : k.length ≤ l.length) : ∀ x ∈ k, x ∈ l := fun x hx => by
  by_cases z : x ∈ l
  · exact z
  · have := sub_len (l := x :: l) (k := k) (List.nodup_cons.mpr ⟨z, nd⟩) fun y hy => by
      rcases List.mem_cons.mp hy with e | hy
      · rw [e]; exact hx
      · exact h y hy
    rw [List.length_cons] at this
    omega
theorem fork_nx {DD : EndsD} {δ : Sl} {m : Mem} {b : Bool} {mk : Nat → Sl} {F : Nat → Prop} {a c : Nat} {d : D} {j i : Nat} (hd : δ[j]? = some (some d)) (e1 : δ.set i (some d) = mk a) (e2 : δ = mk c) (h : ∀ n, F n → DD.nx (mk n) m) (h1 : b = true → F a) (h2 : b = false → F c) :
    (b = true → tAs (tV j) (gN i) DD δ m) ∧ (b = false → tNx DD δ m) := by
  refine ⟨fun e => ⟨d, hd, ?_⟩, fun e => ?_⟩
  · show DD.nx (δ.set i (some d)) m
    rw [e1]
    exact h a (h1 e)
  · show DD.nx δ m
    rw [e2]
    exact h c (h2 e)
/-- levels and totals found -/
abbrev TM (G : Game) (m : Mem) (lv fd : Addr) (v : Nat → Nat) (i : Nat) (l : List Nat) : Mem := updM (updM m lv (.lst ((levs G i).map (lvD G.length)))) fd (.dI (natD l fun x => nD (v x)))
section
variable {G : Game} {m : Mem} {lv fd : Addr} {v : Nat → Nat} {i : Nat} {l : List Nat}
theorem TM_lv (n : lv ≠ fd) : TM G m lv fd v i l lv = some (.lst ((levs G i).map (lvD G.length))) := by
  show updM (updM m lv _) fd _ lv = _
  rw [updM_ne n, updM_same]
theorem TM_fd : TM G m lv fd v i l fd = some (.dI (natD l fun x => nD (v x))) := updM_same
theorem TM_plv (n : lv ≠ fd) : updM (TM G m lv fd v i l) lv (.lst ((levs G i).map (lvD G.length) ++ [lvD G.length (nextLv G (levs G i))])) = TM G m lv fd v (i + 1) l := by
  show updM (updM (updM m lv _) fd _) lv _ = updM (updM m lv (.lst ((levs G i ++ [nextLv G (levs G i)]).map (lvD G.length)))) fd _
  rw [← updM_comm n, updM_updM, List.map_append]
  rfl
theorem TM_pfd {l' : List Nat} : updM (TM G m lv fd v i l) fd (.dI (natD l' fun x => nD (v x))) = TM G m lv fd v i l' := updM_updM
end
structure TI (G : Game) (i : Nat) (l : List Nat) (last : Nat) : Prop where
  nd : l.Nodup
  lt : ∀ x ∈ l, x < G.length
  mem : ∀ x < G.length, (x ∈ l ↔ ∃ j < i, lev G j x = true)
  same : ∀ j, last ≤ j → j < i → ∀ x < G.length, lev G j x = lev G last x
  z : i = 0 → last = 0
  lti : 0 < i → last < i
  e0 : l = [] → last = 0
  e1 : l ≠ [] → last + dear G ≤ l.length * dear G
section
variable {P : Program} {w : World} {K : PySem.W.Frag} {mg : Str → Option Value} {base : Heap}
abbrev st_totals_of : Stmt := topS 53
theorem sc_totals_of : FnScope ["game", "dear", "levels", "found", "last", "owed", "at"] ["game"] (defScope st_totals_of) := ⟨rfl, rfl, rfl, by decide +kernel, rfl, by decide +kernel, by decide +kernel⟩
def sp_totals_of : DSp := fun ds m Kd => ds.length = 1 ∧ ∃ G, Game.Ok G ∧ ds = [gameD G] ∧ ∀ t, IsTot G t → (∀ i < G.length, ∀ k, t i = some k → k ≤ (G.length - 1) * dear G) → Kd (.tup (rgM G.length fun i => encO (t i))) m
theorem ok_totals_of {f : Addr} {fd : FuncData} (F : Fun K "totals_of" "totals_of" st_totals_of f fd) (T : Txt mg) (G_dearest : Fd P w K mg base 1 "dearest" ["game"] sp_dearest) (G_level_behind : Fd P w K mg base 2 "level_behind" ["game", "levels"] sp_level_behind) : FnOk P w K mg base CX0 3 f fd ["game"] (spD K sp_totals_of) := by
  refine fn_d F sc_totals_of (fun _ _ _ h => h.1) fun cdv A outer s H E hr => ⟨_, (qss_cons (qs_set (i := 1) sc_totals_of.nd rfl (by first | exact .inl rfl | exact .inr rfl) (q_fd G_dearest (hr.mono (by decide)) (by rfl) (qa_cons (qv 0) qa_nil)))
 (qss_cons (qs_set (i := 2) sc_totals_of.nd rfl (by first | exact .inl rfl | exact .inr rfl) (q_lstc qa_nil))
 (qss_cons (qs_set (i := 3) sc_totals_of.nd rfl (by first | exact .inl rfl | exact .inr rfl) q_newI)
 (qss_cons (qs_set (i := 4) sc_totals_of.nd rfl (by first | exact .inl rfl | exact .inr rfl) q_int)
 (qss_cons (qs_for (vs := [5]) PassesOwn.never rfl (qi_range (by rfl) T.rng (qa_cons (q_op op_add liftI0 (q_op op_mul liftI (q_op op_sub liftI0 (q_callB call_lenA liftLen (by rfl) T.len (by decide +kernel) (qa_cons (qv 0) qa_nil)) q_int) (qv 1)) q_int) qa_nil)) (qg_name (i := 5) sc_totals_of.nd rfl (by first | exact .inl rfl | exact .inr rfl))
 (qss_cons (qs_expr (q_append (qv 2) (qa_cons (q_fd G_level_behind (hr.mono (by decide)) (by rfl) (qa_cons (qv 0) (qa_cons (qv 2) qa_nil))) qa_nil)))
 (qss_cons (qs_if (qt_cmp op_gt liftB0 (q_callB call_lenA liftLen (by rfl) T.len (by decide +kernel) (qa_cons (q_ix (qv 2) (qv 5)) qa_nil)) (q_callB call_lenA liftLen (by rfl) T.len (by decide +kernel) (qa_cons (qv 3) qa_nil)) (nomark _))
 (qss_one (qs_set (i := 4) sc_totals_of.nd rfl (by first | exact .inl rfl | exact .inr rfl) (qv 5)))
 qss_nil)
 (qss_cons (qs_for (vs := [6]) PassesOwn.never rfl (qi_keysI (q_ix (qv 2) (qv 5))) (qg_name (i := 6) sc_totals_of.nd rfl (by first | exact .inl rfl | exact .inr rfl))
 (qss_one (qs_expr (q_setd (qv 3) (qv 6) (qv 5) ⟨by rfl, by rfl, by rfl, by rfl⟩))))
 (qss_one (qs_if (PW.pt (qw_or (qt_cmp (op_eqD hr.units) liftEq (q_callB call_lenA liftLen (by rfl) T.len (by decide +kernel) (qa_cons (qv 3) qa_nil)) (q_callB call_lenA liftLen (by rfl) T.len (by decide +kernel) (qa_cons (qv 0) qa_nil)) (nomark _)) (qw_or1 (qt_cmp op_ge liftB0 (qv 5) (q_op op_add liftI0 (qv 4) (qv 1)) (nomark _)))))
 (qss_one qs_break)
 qss_nil))))))
 (qss_one (qs_ret (q_callTy call_tuple_of liftTup (by rfl) T.tup (by decide +kernel) (qa_cons (q_lc (own := [("at", 6)]) rfl sc_totals_of.nd (qi_range (by rfl) T.rng (qa_cons (q_callB call_lenA liftLen (by rfl) T.len (by decide +kernel) (qa_cons (qv 0) qa_nil)) qa_nil)) (blkOk_by (by kernel_rfl)) (fun _ _ _ _ _ => (qg_name (i := 6) sc_totals_of.nd rfl (by first | exact .inl rfl | exact .inr rfl))) (fun _ _ _ _ _ => qts_nil) (fun _ _ _ _ _ => (q_get (hu_of hr) (qv 3) (qv 6) ⟨by rfl, by rfl, by rfl, by rfl⟩))) qa_nil))))))))), fun ds m Kd h => ?_⟩
  obtain ⟨_, G, ok, rfl, h⟩ := h
  have g1 := ok.g1
  have g2 := ok.g2
  have hd99 : dear G ≤ 99 := dear_le ok.price
  have lg : ∀ m, lenD (look m (gameD G)) = some G.length := fun m => by show some (List.length _) = _; rw [List.length_map]
  refine ⟨_, rfl, rfl, _, ⟨G, ok, rfl, rfl⟩, ?_⟩
  refine ⟨Nat.zero_le _, fun lv hlv => ?_⟩
  intro fd hfd
  have nlf : lv ≠ fd := fun e => by rw [← e, updM_same] at hfd; cases hfd
  have hfd0 : m fd = none := by rw [updM_ne (Ne.symm nlf)] at hfd; exact hfd
  generalize hB : (G.length - 1) * dear G = B
  have hB2 : B ≤ 35 * 99 := by rw [← hB]; exact Nat.mul_le_mul (by omega) hd99
  have eB : (((G.length : Nat) : Int) - 1) * (dear G : Nat) + 1 = ((B + 1 : Nat) : Int) := by
    have : (((G.length : Nat) : Int) - 1) = ((G.length - 1 : Nat) : Int) := by omega
    rw [this, ← Int.natCast_mul, hB]
    omega
  refine ⟨_, rfl, _, _, rfl, lg _, _, _, rfl, rfl, _, rfl, _, _, rfl, rfl, .inl ⟨by omega, by omega⟩, _, _, rfl, rfl, ((B + 1 : Nat) : Int), congrArg (fun z => [D.int z]) eB, by omega, by omega, ?_⟩
  rw [rg0, Int.toNat_natCast]
  have vdef : ∃ v : Nat → Nat, v = fun x => firstK (fun k => lev G k x) B := ⟨_, rfl⟩
  obtain ⟨v, hv⟩ := vdef
  have fin : ∀ (i : Nat) (l : List Nat) (x4 x5 x6 : Option D), (∀ x ∈ l, x < G.length ∧ ∃ j ≤ B, lev G j x = true) → (∀ x < G.length, x ∉ l → ∀ k, lev G k x = false) →
      tRt (tCb cTup (tAC (tLC (iR (tAC (tCb cLen (tAC (tV 0) tAN)) tAN)) [6] (gN 6) tYs (tGt (tV 3) (tV 6))) tAN)) (endD Kd) [some (gameD G), some (nD (dear G)), some (.ref lv), some (.ref fd), x4, x5, x6] (TM G m lv fd v i l) := fun i l x4 x5 x6 h1 h2 => by
    refine ⟨_, rfl, _, _, rfl, lg _, _, rfl, by omega, by omega, ?_⟩
    rw [rg0, Int.toNat_natCast]
    refine lc_map (g := fun x => encO (if x ∈ l then some (v x) else none)) (szR _ (by omega)) (fun x hx m2 Q N sm hq => ⟨fun _ => ?_, nofun⟩) ?_
    · have lk : look m2 (.ref fd) = .dI (natD l fun x => nD (v x)) := by
        show (m2 fd).getD _ = _
        rw [sm fd _ TM_fd]
        rfl
      refine ⟨_, rfl, _, lk, _, rfl, _, (x : Nat), lk, rfl, ?_⟩
      by_cases hxl : x ∈ l
      · rw [getI_nat hxl]
        rw [if_pos hxl] at hq
        exact hq
      · rw [getI_nat_no hxl]
        rw [if_neg hxl] at hq
        exact hq
    · refine ⟨_, _, rfl, rfl, m, ?_, h (fun x => if x ∈ l then some (v x) else none) ⟨fun x hx k hk => ?_, fun x hx hk => ?_⟩ fun x hx k hk => ?_⟩
      · exact ((SubM.refl m).upd hlv).upd hfd0
      · by_cases hxl : x ∈ l
        · rw [if_pos hxl] at hk
          have hk := Option.some.inj hk
          subst hk
          obtain ⟨_, j, hj, hl⟩ := h1 x hxl
          rw [hv]
          exact ⟨firstK_yes (p := fun k => lev G k x) hj hl, fun j hj => firstK_no (p := fun k => lev G k x) hj⟩
        · rw [if_neg hxl] at hk; cases hk
      · by_cases hxl : x ∈ l
        · rw [if_pos hxl] at hk; cases hk
        · exact h2 x hx hxl
      · show k ≤ _
        by_cases hxl : x ∈ l
        · rw [if_pos hxl] at hk
          have hk := Option.some.inj hk
          subst hk
          rw [hB, hv]
          exact firstK_le (fun k => lev G k x) B
        · rw [if_neg hxl] at hk; cases hk
  refine for_T (fun i δ m' => ∃ l last x5 x6, δ = [some (gameD G), some (nD (dear G)), some (.ref lv), some (.ref fd), some (nD last), x5, x6] ∧ m' = TM G m lv fd v i l ∧ TI G i l last ∧ (0 < i → l.length ≠ G.length ∧ i - 1 < last + dear G))
    ⟨[], 0, _, _, rfl, rfl, ⟨List.nodup_nil, fun x hx => absurd hx (by simp), fun x hx => ⟨fun z => absurd z (by simp), fun ⟨j, hj, _⟩ => absurd hj (Nat.not_lt_zero j)⟩, fun j _ hj => absurd hj (Nat.not_lt_zero j), fun _ => rfl, fun z => absurd z (Nat.lt_irrefl 0), fun _ => rfl, fun z => absurd rfl z⟩, fun z => absurd z (Nat.lt_irrefl 0)⟩ ?_ ?_
  · rintro i y δ m' hy ⟨l, last, x5, x6, rfl, rfl, I, hnb⟩
    obtain ⟨rfl, hi⟩ := range_get hy
    have hlN : l.length ≤ G.length := nodup_len I.nd I.lt
    have ll := levs_len G y
    refine ⟨_, rfl, lv, _, rfl, TM_lv nlf, _, rfl, _, rfl, rfl, G, levs G y, lv, ok, by omega, rfl, TM_lv nlf, _, _, rfl, TM_lv nlf, by rw [List.length_map, ll, sizeLine_eq]; omega, ?_⟩
    rw [TM_plv nlf]
    have lk : look (TM G m lv fd v (y + 1) l) (.ref lv) = .lst ((levs G (y + 1)).map (lvD G.length)) := by
      show (TM G m lv fd v (y + 1) l lv).getD _ = _
      rw [TM_lv nlf]
      rfl
    have at1 : atI ((levs G (y + 1)).map (lvD G.length)) ((y : Nat) : Int) = some (lvD G.length (lev G y)) := atI_nat (by rw [List.getElem?_map, levs_get G (Nat.lt_succ_self y)]; rfl)
    have lf : ∀ {k : Nat} {l' : List Nat}, lenD (look (TM G m lv fd v k l') (.ref fd)) = some l'.length := fun {k l'} => by
      show lenD ((TM G m lv fd v k l' fd).getD _) = _
      rw [TM_fd]
      show some (List.length _) = _
      rw [List.length_map]
    have hmono : ∀ x ∈ l, lev G y x = true := fun x hx => by
      obtain ⟨j, hj, e⟩ := (I.mem x (I.lt x hx)).mp hx
      exact lev_mono ok (by omega) (I.lt x hx) e
    have hsub : ∀ x ∈ l, x ∈ lvL G.length (lev G y) := fun x hx => List.mem_filter.mpr ⟨List.mem_range.mpr (I.lt x hx), hmono x hx⟩
    have lvnd : (lvL G.length (lev G y)).Nodup := List.nodup_range.sublist List.filter_sublist
    -- the last growth
    let F : Nat → Prop := fun last' => (lvL G.length (lev G y) = [] → last' = 0) ∧ (last' ≤ y) ∧ (∀ j, last' ≤ j → j < y + 1 → ∀ x < G.length, lev G j x = lev G last' x) ∧ (lvL G.length (lev G y) ≠ [] → last' + dear G ≤ (lvL G.length (lev G y)).length * dear G)
    refine ⟨_, rfl, _, rfl, _, _, lvD G.length (lev G y), by rw [lk]; rfl, rfl, at1, _, _, rfl, by show some (List.length _) = _; rw [List.length_map], _, rfl, _, _, rfl, lf, _, _, rfl, rfl, _, rfl,
      fork_nx (mk := fun last' => [some (gameD G), some (nD (dear G)), some (.ref lv), some (.ref fd), some (nD last'), some (nD y), x6]) (F := F) (a := y) (c := last) rfl rfl rfl (fun last' hF => ?_) (fun e => ?_) (fun e => ?_)⟩
    · obtain ⟨f0, f1, f2, f3⟩ := hF
      refine ⟨_, rfl, _, rfl, _, _, lvD G.length (lev G y), by rw [lk]; rfl, rfl, at1, _, rfl, ?_⟩
      rw [List.map_map]
      refine for_T (ys := lvL G.length (lev G y)) (enc := nD) (fun j δ m'' => ∃ l' x6, δ = [some (gameD G), some (nD (dear G)), some (.ref lv), some (.ref fd), some (nD last'), some (nD y), x6] ∧ m'' = TM G m lv fd v (y + 1) l' ∧ l'.Nodup ∧ (∀ x ∈ l', x < G.length) ∧ (∀ x, x ∈ l' ↔ x ∈ l ∨ x ∈ (lvL G.length (lev G y)).take j))
        ⟨l, _, rfl, rfl, I.nd, I.lt, fun x => by simp⟩ ?_ ?_
      · rintro j x δ m'' hx ⟨l', y6, rfl, rfl, nd', lt', mem'⟩
        have hxm := List.mem_of_getElem? hx
        have hxN : x < G.length := List.mem_range.mp (List.mem_filter.mp hxm).1
        have hxl : lev G y x = true := (List.mem_filter.mp hxm).2
        have hl' : l'.length ≤ G.length := nodup_len nd' lt'
        have htk : ∀ z, z ∈ (lvL G.length (lev G y)).take (j + 1) ↔ z ∈ (lvL G.length (lev G y)).take j ∨ z = x := fun z => by
          rw [take_succ hx, List.mem_append, List.mem_singleton]
        refine ⟨_, rfl, fd, _, rfl, TM_fd, _, rfl, _, rfl, natD l' _, (x : Nat), TM_fd, rfl, by rw [List.length_map, sizeLine_eq]; omega, fun d hd => ?_, fun hn => ?_⟩
        · have hin : x ∈ l' := by
            by_cases z : x ∈ l'
            · exact z
            · rw [getI_nat_no z] at hd; cases hd
          refine ⟨l', _, rfl, rfl, nd', lt', fun z => ?_⟩
          rw [mem' z, htk]
          refine ⟨fun a => a.elim .inl fun b => .inr (.inl b), fun a => a.elim .inl fun b => b.elim .inr fun c => ?_⟩
          subst c
          exact (mem' z).mp hin
        · have hin : x ∉ l' := fun z => by rw [getI_nat z] at hn; cases hn
          have hnl : x ∉ l := fun z => hin ((mem' x).mpr (.inl z))
          have hvx : v x = y := by
            rw [hv]
            refine firstK_eq (p := fun k => lev G k x) (by omega) hxl fun j' hj' => ?_
            refine Bool.eq_false_iff.mpr fun z => hnl ((I.mem x hxN).mpr ⟨j', hj', z⟩)
          have hk : ((x : Nat) : Int) ∉ keyI (natD l' fun x => nD (v x)) := fun z => by
            have := getI_some (kvs := natD l' fun x => nD (v x)) (k := (x : Nat))
            rw [hn, decT z] at this
            cases this
          rw [putI_new hk]
          have e1 : (natD l' fun x => nD (v x)) ++ [(((x : Nat) : Int), nD y)] = natD (l' ++ [x]) fun x => nD (v x) := by
            unfold natD
            rw [List.map_append]
            show _ ++ _ = _ ++ [(((x : Nat) : Int), nD (v x))]
            rw [hvx]
          rw [e1, TM_pfd]
          refine ⟨l' ++ [x], _, rfl, rfl, List.nodup_append.mpr ⟨nd', by simp, fun a ha b hb e => hin (by rw [List.mem_singleton.mp hb] at e; exact e ▸ ha)⟩, fun z hz => ?_, fun z => ?_⟩
          · rcases List.mem_append.mp hz with hz | hz
            · exact lt' z hz
            · rw [List.mem_singleton.mp hz]; exact hxN
          · rw [List.mem_append, mem' z, htk, List.mem_singleton, or_assoc]
      · rintro δ m'' ⟨l', y6, rfl, rfl, nd', lt', mem'⟩
        rw [List.take_length] at mem'
        have mem2 : ∀ x, x ∈ l' ↔ x ∈ lvL G.length (lev G y) := fun x => (mem' x).trans ⟨fun a => a.elim (hsub x) id, .inr⟩
        have memN : ∀ x < G.length, (x ∈ l' ↔ lev G y x = true) := fun x hx => (mem2 x).trans ⟨fun a => (List.mem_filter.mp a).2, fun a => List.mem_filter.mpr ⟨List.mem_range.mpr hx, a⟩⟩
        have hlen : l'.length = (lvL G.length (lev G y)).length := by
          have p : l'.Perm (lvL G.length (lev G y)) := (List.perm_ext_iff_of_nodup nd' lvnd).mpr mem2
          exact p.length_eq
        have hl' : l'.length ≤ G.length := nodup_len nd' lt'
        have nil_iff : l' = [] ↔ lvL G.length (lev G y) = [] := by
          rw [← List.length_eq_zero_iff, ← List.length_eq_zero_iff, hlen]
        have ti : TI G (y + 1) l' last' := ⟨nd', lt', fun x hx => (memN x hx).trans ⟨fun a => ⟨y, Nat.lt_succ_self y, a⟩, fun ⟨j, hj, a⟩ => lev_mono ok (by omega) hx a⟩, f2, fun z => absurd z (Nat.succ_ne_zero y), fun _ => by omega, fun z => f0 (nil_iff.mp z), fun z => by rw [hlen]; exact f3 fun z2 => z (nil_iff.mpr z2)⟩
        have done : (l'.length = G.length ∨ last' + dear G ≤ y) → ∀ x < G.length, x ∉ l' → ∀ k, lev G k x = false := fun hd x hx hxl k => by
          have no : lev G y x = false := Bool.eq_false_iff.mpr fun z => hxl ((memN x hx).mpr z)
          rcases hd with hd | hd
          · have := nodup_len (n := G.length) (l := x :: l') (List.nodup_cons.mpr ⟨hxl, nd'⟩) fun z hz => by
              rcases List.mem_cons.mp hz with e | hz
              · rw [e]; exact hx
              · exact lt' z hz
            rw [List.length_cons] at this
            omega
          · have st := lev_stable ok (last := last') fun j h1 h2 x hx => f2 j h1 (by omega) x hx
            have e1 : lev G last' x = false := by rw [← st y f1 x hx]; exact no
            rcases Nat.lt_or_ge k last' with hk | hk
            · exact Bool.eq_false_iff.mpr fun z => by rw [lev_mono ok (Nat.le_of_lt hk) hx z] at e1; cases e1
            · rw [st k hk x hx, e1]
        have out : (l'.length = G.length ∨ last' + dear G ≤ y) → tRt (tCb cTup (tAC (tLC (iR (tAC (tCb cLen (tAC (tV 0) tAN)) tAN)) [6] (gN 6) tYs (tGt (tV 3) (tV 6))) tAN)) (endD Kd) [some (gameD G), some (nD (dear G)), some (.ref lv), some (.ref fd), some (nD last'), some (nD y), y6] (TM G m lv fd v (y + 1) l') := fun hd =>
          fin _ l' _ _ _ (fun x hx => ⟨lt' x hx, y, by omega, (memN x (lt' x hx)).mp hx⟩) (done hd)
        refine ⟨_, rfl, _, _, rfl, lf, _, rfl, _, _, rfl, lg _, rfl, rfl, _, rfl, fun e => ?_, fun e => ?_⟩
        · rw [eqD_nat] at e
          exact ⟨fun _ => out (.inl (of_decide_eq_true e)), nofun⟩
        · rw [eqD_nat] at e
          have e := of_decide_eq_false e
          refine ⟨_, rfl, _, rfl, _, rfl, _, _, rfl, rfl, _, _, rfl, rfl, _, rfl, fun e2 => ?_, fun e2 => ?_⟩
          · have e2 := of_decide_eq_true e2
            exact out (.inr (by omega))
          · have e2 := of_decide_eq_false e2
            exact ⟨l', last', _, _, rfl, rfl, ti, fun _ => ⟨e, by omega⟩⟩
    · have e := of_decide_eq_true e
      have hgt : l.length < (lvL G.length (lev G y)).length := by omega
      refine ⟨fun z => by rw [z] at hgt; exact absurd hgt (Nat.not_lt_zero _), Nat.le_refl _, fun j h1 h2 x _ => by rw [show j = y by omega], fun _ => ?_⟩
      by_cases hl : l = []
      · have hy0 : y = 0 := by
          by_cases z : y = 0
          · exact z
          · have nomet : ∀ x < G.length, metP G x = false := fun x hx => Bool.eq_false_iff.mpr fun z2 => by
              have := (I.mem x hx).mpr ⟨0, by omega, (lev_zero ok hx).trans z2⟩
              rw [hl] at this
              cases this
            have : lvL G.length (lev G y) = [] := List.filter_eq_nil_iff.mpr fun x hx => by rw [lev_none ok nomet (List.mem_range.mp hx)]; exact Bool.false_ne_true
            rw [this] at hgt
            exact absurd hgt (Nat.not_lt_zero _)
        have : 1 * dear G ≤ (lvL G.length (lev G y)).length * dear G := Nat.mul_le_mul_right _ (by omega)
        omega
      · have hy0 : 0 < y := by
          rcases Nat.eq_zero_or_pos y with z | z
          · obtain ⟨x, l', el⟩ := List.exists_cons_of_ne_nil hl
            have hx : x ∈ l := by rw [el]; exact List.mem_cons_self ..
            obtain ⟨j, hj, _⟩ := (I.mem x (I.lt x hx)).mp hx
            omega
          · exact z
        have h1 := I.e1 hl
        have h2 := (hnb hy0).2
        have : (l.length + 1) * dear G ≤ (lvL G.length (lev G y)).length * dear G := Nat.mul_le_mul_right _ hgt
        rw [Nat.add_mul, Nat.one_mul] at this
        omega
    · have e := of_decide_eq_false e
      have hle : (lvL G.length (lev G y)).length ≤ l.length := by omega
      have back := sub_all I.nd hsub hle
      have nil2 : l = [] → lvL G.length (lev G y) = [] := fun z => List.eq_nil_of_length_eq_zero (by rw [z] at hle; exact Nat.le_zero.mp hle)
      have nil1 : lvL G.length (lev G y) = [] → l = [] := fun z => by
        cases hl : l with
        | nil => rfl
        | cons x l' =>
          have := hsub x (by rw [hl]; exact List.mem_cons_self ..)
          rw [z] at this
          cases this
      have lasty : last ≤ y := by
        rcases Nat.eq_zero_or_pos y with z | z
        · have := I.z z; omega
        · have := I.lti z; omega
      refine ⟨fun z => I.e0 (nil1 z), lasty, fun j h1 h2 x hx => ?_, fun z => ?_⟩
      · by_cases hj : j < y
        · exact I.same j h1 hj x hx
        · have : j = y := by omega
          subst this
          rcases Nat.eq_zero_or_pos j with z | z
          · rw [show last = j by omega]
          · refine Bool.eq_iff_iff.mpr ⟨fun a => ?_, fun a => lev_mono ok lasty hx a⟩
            have hxl := back x (List.mem_filter.mpr ⟨List.mem_range.mpr hx, a⟩)
            obtain ⟨j', hj', b⟩ := (I.mem x hx).mp hxl
            rcases Nat.lt_or_ge j' last with c | c
            · exact lev_mono ok (Nat.le_of_lt c) hx b
            · rw [← I.same j' c hj' x hx]; exact b
      · have h1 := I.e1 fun z2 => z (nil2 z2)
        have : l.length * dear G ≤ (lvL G.length (lev G y)).length * dear G := Nat.mul_le_mul_right _ (sub_len I.nd hsub)
        omega
  · rintro δ m' ⟨l, last, x5, x6, rfl, rfl, I, hnb⟩
    rw [List.length_range] at I hnb
    have hlN : l.length ≤ G.length := nodup_len I.nd I.lt
    obtain ⟨n1, n2⟩ := hnb (Nat.succ_pos B)
    refine fin _ l _ _ _ (fun x hx => ⟨I.lt x hx, by obtain ⟨j, hj, e⟩ := (I.mem x (I.lt x hx)).mp hx; exact ⟨j, by omega, e⟩⟩) fun x hx hxl k => ?_
    by_cases hl : l = []
    · refine lev_none ok (fun y hy => ?_) hx
      refine Bool.eq_false_iff.mpr fun z => ?_
      have := (I.mem y hy).mpr ⟨0, by omega, (lev_zero ok hy).trans z⟩
      rw [hl] at this
      cases this
    · have e1 := I.e1 hl
      have : l.length * dear G ≤ (G.length - 1) * dear G := Nat.mul_le_mul_right _ (by omega)
      omega
end
end MW

end
section
set_option Elab.async false
set_option linter.all false
set_option maxRecDepth 100000
set_option pp.maxSteps 400
/-! MwG: games/totals: rows_to, first_forcing, endless_rows. -/
namespace MW
open PySem PySem.Spec PyProof.Rows L2
def rowsP (G : Game) : Nat → List Nat
  | 0 => List.replicate G.length 0
  | k + 1 => rowB G (rowsP G k)
def Pw (G : Game) (k i : Nat) : Nat := (rowsP G k).getD i 0
theorem rowsP_len (G : Game) : ∀ k, (rowsP G k).length = G.length
  | 0 => List.length_replicate
  | k + 1 => by show (rowB G (rowsP G k)).length = _; unfold rowB; rw [List.length_map]
theorem Pw_zero {G : Game} {i : Nat} : Pw G 0 i = 0 := by
  unfold Pw
  rw [List.getD_eq_getElem?_getD]
  show ((List.replicate G.length 0)[i]?).getD 0 = 0
  rw [List.getElem?_replicate]
  split <;> rfl
theorem Pw_succ {G : Game} {k i : Nat} (hi : i < G.length) : Pw G (k + 1) i = maxL ((G.getD i []).map fun ask => leastOf ask (rowsP G k)) := by
  have e : G[i]? = some (G.getD i []) := by rw [getD_at (List.getElem?_eq_getElem hi)]; exact List.getElem?_eq_getElem hi
  show (rowB G (rowsP G k)).getD i 0 = _
  unfold rowB
  refine getD_at ?_
  rw [List.getElem?_map, e]
  rfl
theorem least_ge {G : Game} {k n : Nat} {ask : Ask} (hne : 1 ≤ ask.length) : n ≤ leastOf ask (rowsP G k) ↔ ∀ a ∈ ask, n ≤ a.1 + Pw G k a.2 := by
  unfold leastOf
  constructor
  · intro h a ha
    exact Nat.le_trans h (minL_le (List.mem_map.mpr ⟨a, ha, rfl⟩))
  · intro h
    have hm := minL_mem (l := ask.map fun a => a.1 + (rowsP G k).getD a.2 0) (fun e => by have := congrArg List.length e; rw [List.length_map] at this; have : ask.length = 0 := this; omega)
    obtain ⟨a, ha, e⟩ := List.mem_map.mp hm
    rw [← e]
    exact h a ha
theorem Pw_ge {G : Game} (ok : G.Ok) : ∀ {k j i : Nat}, i < G.length → j ≤ k → (∀ j' < j, lev G j' i = false) → j ≤ Pw G k i := by
  intro k
  induction k with
  | zero => intro j i _ hj _; omega
  | succ k ih =>
    intro j i hi hj hn
    rcases Nat.eq_zero_or_pos j with z | z
    · omega
    · have h1 := hn (j - 1) (by omega)
      have hm := getD_mem hi
      have h2 : ¬ (metP G i = true ∨ ∀ ask ∈ G.getD i [], ∃ a ∈ ask, 1 ≤ a.1 ∧ a.1 ≤ j - 1 ∧ lev G (j - 1 - a.1) a.2 = true) := fun z2 => by
        rw [(lev_iff ok hi).mpr z2] at h1
        cases h1
      have um : metP G i = false := Bool.eq_false_iff.mpr fun z2 => h2 (.inl z2)
      have h3 : ∃ ask ∈ G.getD i [], ∀ a ∈ ask, ¬ (a.1 ≤ j - 1 ∧ lev G (j - 1 - a.1) a.2 = true) := by
        refine Classical.byContradiction fun z2 => h2 (.inr fun ask ha => Classical.byContradiction fun z3 => z2 ⟨ask, ha, fun a haa z4 => z3 ⟨a, haa, ok.pos hi um ask ha a haa, z4.1, z4.2⟩⟩)
      obtain ⟨ask, ha, h4⟩ := h3
      have hle : j ≤ leastOf ask (rowsP G k) := (least_ge (ok.b1 _ hm ask ha)).mpr fun a haa => by
        have p1 := ok.pos hi um ask ha a haa
        by_cases z2 : j ≤ a.1
        · omega
        · have ht := ok.there _ hm ask ha a haa
          have lf : lev G (j - 1 - a.1) a.2 = false := Bool.eq_false_iff.mpr fun z3 => h4 a haa ⟨by omega, z3⟩
          have := ih (j := j - a.1) (i := a.2) ht (by omega) fun j' hj' => Bool.eq_false_iff.mpr fun z3 => by rw [lev_mono ok (by omega) ht z3] at lf; cases lf
          omega
      rw [Pw_succ hi]
      exact Nat.le_trans hle (maxL_le (List.mem_map.mpr ⟨ask, ha, rfl⟩))
theorem atI_last {l : List D} {x : D} : atI (l ++ [x]) (-1) = some x := by
  unfold atI ixN
  rw [if_neg (by decide), List.length_append, if_pos (by simp; omega)]
  show (l ++ [x])[_]? = _
  have : ((-1 : Int) + ((l.length + [x].length : Nat) : Int)).toNat = l.length := by simp; omega
  rw [this, List.getElem?_append_right (Nat.le_refl _), Nat.sub_self]
  rfl
def rowD (G : Game) (k : Nat) : D := .tup ((rowsP G k).map nD)
theorem rowD_at {G : Game} {k i : Nat} (hi : i < G.length) : atI ((rowsP G k).map nD) ((i : Nat) : Int) = some (nD (Pw G k i)) := at_nat (by rw [rowsP_len]; exact hi)
theorem perm_map_inv {α β : Type} {f : α → β} : ∀ {m : List β} {l : List α}, m.Perm (l.map f) → ∃ l' : List α, l'.Perm l ∧ m = l'.map f
  | [], l, h => by
    have := h.length_eq
    rw [List.length_map] at this
    have e := List.eq_nil_of_length_eq_zero this.symm
    subst e
    exact ⟨[], .refl _, rfl⟩
  | b :: m, l, h => by
    have hb : b ∈ l.map f := h.mem_iff.mp (List.mem_cons_self ..)
    obtain ⟨a, ha, e⟩ := List.mem_map.mp hb
    obtain ⟨s, t, el⟩ := List.append_of_mem ha
    subst el e
    have h2 : (f a :: m).Perm (f a :: ((s ++ t).map f)) := h.trans (by
      rw [List.map_append, List.map_cons, List.map_append]
      exact List.perm_middle)
    obtain ⟨l', p, e2⟩ := perm_map_inv (List.Perm.cons_inv h2)
    exact ⟨a :: l', (List.Perm.cons a p).trans List.perm_middle.symm, by rw [e2]; rfl⟩
section
variable {P : Program} {w : World} {K : PySem.W.Frag} {mg : Str → Option Value} {base : Heap}
abbrev st_rows_to : Stmt := topS 54
theorem sc_rows_to : FnScope ["game", "total", "rows"] ["game", "total"] (defScope st_rows_to) := ⟨rfl, rfl, rfl, by decide +kernel, rfl, by decide +kernel, by decide +kernel⟩
def sp_rows_to : DSp := fun ds m Kd => ds.length = 2 ∧ ∃ G t, Game.Ok G ∧ t ≤ 4000 ∧ (∀ j < t, lev G j 0 = false) ∧ ds = [gameD G, nD t] ∧ ∀ n, t ≤ Pw G n 0 → Kd (.lst ((List.range (n + 1)).map (rowD G))) m
theorem ok_rows_to {f : Addr} {fd : FuncData} (F : Fun K "rows_to" "rows_to" st_rows_to f fd) (T : Txt mg) (G_row_behind : Fd P w K mg base 2 "row_behind" ["game", "row"] sp_row_behind) : FnOk P w K mg base CX0 3 f fd ["game", "total"] (spD K sp_rows_to) := by
  refine fn_d F sc_rows_to (fun _ _ _ h => h.1) fun cdv A outer s H E hr => ⟨_, (qss_cons (qs_set (i := 2) sc_rows_to.nd rfl (by first | exact .inl rfl | exact .inr rfl) (q_lstc (qa_cons (q_op op_repA liftRep (q_tup (qa_cons q_int qa_nil)) (q_callB call_lenA liftLen (by rfl) T.len (by decide +kernel) (qa_cons (qv 0) qa_nil))) qa_nil)))
 (qss_cons (qs_while PassesOwn.never (qt_cmp op_lt liftB0 (q_ix (q_ix (qv 2) q_negc) q_int) (qv 1) (nomark _))
 (qss_one (qs_expr (q_append (qv 2) (qa_cons (q_fd G_row_behind (hr.mono (by decide)) (by rfl) (qa_cons (qv 0) (qa_cons (q_ix (qv 2) q_negc) qa_nil))) qa_nil)))))
 (qss_one (qs_ret (q_seal (qv 2)))))), fun ds m Kd h => ?_⟩
  obtain ⟨_, G, t, ok, ht, hno, rfl, h⟩ := h
  have g1 := ok.g1
  have g2 := ok.g2
  have lg : ∀ m, lenD (look m (gameD G)) = some G.length := fun m => by show some (List.length _) = _; rw [List.length_map]
  refine ⟨sz_of (by decide : 1 ≤ 1000), _, rfl, _, _, rfl, lg _, _, _, rfl, rfl, g1, by omega, sz_of (by decide : 1 ≤ 1000), fun p hp => ?_⟩
  have e0 : D.tup (List.replicate G.length (D.int 0)) = rowD G 0 := by
    show _ = D.tup ((List.replicate G.length 0).map nD)
    rw [List.map_replicate]
    rfl
  rw [e0]
  refine ⟨fun n δ m' => ∃ k, δ = [some (gameD G), some (nD t), some (.ref p)] ∧ m' = updM m p (.lst ((List.range (k + 1)).map (rowD G))) ∧ k ≤ t ∧ n = t + 1 - k, ⟨t + 1, 0, rfl, rfl, Nat.zero_le _, rfl⟩, ?_⟩
  rintro n δ m' ⟨k, rfl, rfl, hk, rfl⟩
  have er : (List.range (k + 1)).map (rowD G) = (List.range k).map (rowD G) ++ [rowD G k] := by rw [List.range_succ, List.map_append]; rfl
  have lk : look (updM m p (.lst ((List.range (k + 1)).map (rowD G)))) (.ref p) = .lst ((List.range k).map (rowD G) ++ [rowD G k]) := by
    show (updM m p _ p).getD _ = _
    rw [updM_same, er]
    rfl
  refine ⟨_, rfl, _, _, rowD G k, by rw [lk]; rfl, rfl, atI_last, _, _, _, rfl, rfl, rowD_at (i := 0) (by omega), _, rfl, _, _, rfl, rfl, _, rfl, fun e => ?_, fun e => ?_⟩
  · have e := of_decide_eq_true e
    have hkt : k < t := by
      have := Pw_ge ok (k := k) (j := k) (i := 0) (by omega) (Nat.le_refl _) fun j hj => hno j (by omega)
      omega
    refine ⟨_, rfl, p, _, rfl, updM_same, _, rfl, _, rfl, _, _, rowD G k, by rw [lk]; rfl, rfl, atI_last, rfl, _, ⟨G, rowsP G k, ok, rowsP_len G k, rfl, rfl⟩, _, _, rfl, updM_same, ?_, ?_⟩
    · rw [List.length_map, List.length_range, sizeLine_eq]; omega
    · rw [updM_updM]
      refine ⟨t + 1 - (k + 1), by omega, k + 1, rfl, ?_, by omega, rfl⟩
      rw [List.range_succ (n := k + 1), List.map_append]
      rfl
  · have e := of_decide_eq_false e
    refine ⟨_, rfl, p, _, rfl, updM_same, trivial, m, by rw [delM_updM hp]; exact SubM.refl m, h k (by omega)⟩
end
end MW

end
section
set_option Elab.async false
set_option linter.all false
set_option maxRecDepth 100000
set_option pp.maxSteps 400
/-! MwH: games/totals: first_forcing, endless_rows. -/
namespace MW
open PySem PySem.Spec PyProof.Rows L2
theorem en_map {α : Type} {l : List α} {f : α → D} {d : α} : enD (l.map f) = (List.range l.length).map fun i => .tup [nD i, f (l.getD i d)] := by
  unfold enD
  refine List.ext_getElem (by simp) fun i h1 h2 => ?_
  have hi : i < l.length := by simpa using h2
  simp only [List.getElem_mapIdx, List.getElem_map, List.getElem_range]
  rw [getD_at (List.getElem?_eq_getElem hi)]
theorem memD_nats {E : List Nat} {t : Nat} : memD (.lst (E.map nD)) (nD t) = some (decide (t ∈ E)) := by
  show (if (((E.map nD).all flatD) && flatD (nD t)) = true then some ((E.map nD).any fun z => eqD z (nD t)) else none) = _
  rw [if_pos (by rw [Bool.and_eq_true]; exact ⟨List.all_eq_true.mpr fun x hx => by obtain ⟨t, _, e⟩ := List.mem_map.mp hx; subst e; rfl, rfl⟩)]
  congr 1
  refine Bool.eq_iff_iff.mpr ⟨fun z => ?_, fun z => ?_⟩
  · obtain ⟨x, hx, e⟩ := List.any_eq_true.mp z
    obtain ⟨u, hu, e2⟩ := List.mem_map.mp hx
    subst e2
    rw [eqD_nat] at e
    exact decT (of_decide_eq_true e ▸ hu)
  · exact List.any_eq_true.mpr ⟨nD t, List.mem_map.mpr ⟨t, of_decide_eq_true z, rfl⟩, by rw [eqD_nat]; exact decT rfl⟩
/-- an ask all whose answers stay in E -/
def goodAsk (E : List Nat) (asks : List Ask) (j : Nat) : Prop := ∃ ask, asks[j]? = some ask ∧ ∀ a ∈ ask, a.2 ∈ E
abbrev e3 (x : Nat × Nat) : D := .tup [nD x.1, nD x.2, nD 0]
abbrev EM (m : Mem) (rk fd : Addr) (rs : List Nat) (F : List (Nat × Nat)) : Mem := updM (updM m rk (.dI (natD rs fun _ => nD 0))) fd (.lst (F.map e3))
section
variable {m : Mem} {rk fd : Addr} {rs rs' : List Nat} {F F' : List (Nat × Nat)}
theorem EM_r (n : rk ≠ fd) : EM m rk fd rs F rk = some (.dI (natD rs fun _ => nD 0)) := by
  show updM (updM m rk _) fd _ rk = _
  rw [updM_ne n, updM_same]
theorem EM_f : EM m rk fd rs F fd = some (.lst (F.map e3)) := updM_same
theorem EM_pr (n : rk ≠ fd) : updM (EM m rk fd rs F) rk (.dI (natD rs' fun _ => nD 0)) = EM m rk fd rs' F := by
  show updM (updM (updM m rk _) fd _) rk _ = updM (updM m rk _) fd _
  rw [← updM_comm n, updM_updM]
theorem EM_pf : updM (EM m rk fd rs F) fd (.lst (F'.map e3)) = EM m rk fd rs F' := updM_updM
end
section
variable {P : Program} {w : World} {K : PySem.W.Frag} {mg : Str → Option Value} {base : Heap}
abbrev st_first_forcing : Stmt := topS 56
theorem sc_first_forcing : FnScope ["asks", "ends", "ranks", "number", "ask", "price", "there"] ["asks", "ends", "ranks"] (defScope st_first_forcing) := ⟨rfl, rfl, rfl, by decide +kernel, rfl, by decide +kernel, by decide +kernel⟩
def sp_first_forcing : DSp := fun ds m Kd => ds.length = 3 ∧ ∃ asks E R, asks.length ≤ 6 ∧ (∀ ask ∈ asks, ask.length ≤ 3 ∧ ∀ a ∈ ask, 1 ≤ a.1) ∧ (∃ j, goodAsk E asks j) ∧ ds = [posD asks, .lst (E.map nD), R] ∧ ∀ j, goodAsk E asks j → Kd (nD j) m
theorem ok_first_forcing {f : Addr} {fd : FuncData} (F : Fun K "first_forcing" "first_forcing" st_first_forcing f fd) (T : Txt mg)  : FnOk P w K mg base CX0 1 f fd ["asks", "ends", "ranks"] (spD K sp_first_forcing) := by
  refine fn_d F sc_first_forcing (fun _ _ _ h => h.1) fun cdv A outer s H E hr => ⟨_, (qss_cons (qs_for (vs := [3, 4]) PassesOwn.never rfl (qi_enum (by rfl) T.enum (qa_cons (qv 0) qa_nil)) (qg_tup (n := 2) rfl (qgs_cons (qg_name (i := 3) sc_first_forcing.nd rfl (by first | exact .inl rfl | exact .inr rfl)) (qgs_cons (qg_name (i := 4) sc_first_forcing.nd rfl (by first | exact .inl rfl | exact .inr rfl)) qgs_nil)))
 (qss_one (qs_if (qt_val (q_callB (cr_all rfl) liftAll (by rfl) T.all (by decide +kernel) (qa_cons (q_lc (own := [("price", 5), ("there", 6)]) rfl sc_first_forcing.nd (qi_tup (qv 4)) (blkOk_by (by kernel_rfl)) (fun _ _ _ _ _ => (qg_tup (n := 2) rfl (qgs_cons (qg_name (i := 5) sc_first_forcing.nd rfl (by first | exact .inl rfl | exact .inr rfl)) (qgs_cons (qg_name (i := 6) sc_first_forcing.nd rfl (by first | exact .inl rfl | exact .inr rfl)) qgs_nil)))) (fun _ _ _ _ _ => qts_nil) (fun _ _ _ _ _ => (q_and (q_cmp (op_inA (hu_of hr)) (liftIn false) (qv 6) (qv 1) (by rfl)) (q_one (q_or (q_cmp op_gt liftB0 (qv 5) q_int (nomark _)) (q_one (q_cmp (op_inA (hu_of hr)) (liftIn false) (qv 6) (qv 2) (by rfl)))))))) qa_nil)))
 (qss_one (qs_ret (qv 3)))
 qss_nil)))
 (qss_one (qs_ret q_non))), fun ds m Kd h => ?_⟩
  obtain ⟨_, asks, E, R, h1, h2, hex, rfl, h⟩ := h
  refine ⟨_, rfl, _, rfl, ?_⟩
  rw [en_map (d := [])]
  refine for_T (fun i δ m' => m' = m ∧ (∃ x3 x4 x5 x6, δ = [some (posD asks), some (.lst (E.map nD)), some R, x3, x4, x5, x6]) ∧ ∀ j < i, ¬ goodAsk E asks j) ⟨rfl, ⟨_, _, _, _, rfl⟩, fun j hj => absurd hj (Nat.not_lt_zero j)⟩ ?_ ?_
  · rintro i y δ m' hy ⟨rfl, ⟨x3, x4, x5, x6, rfl⟩, hno⟩
    obtain ⟨rfl, hi⟩ := range_get hy
    have ea : asks[y]? = some (asks.getD y []) := by rw [getD_at (List.getElem?_eq_getElem hi)]; exact List.getElem?_eq_getElem hi
    generalize asks.getD y [] = ask at ea
    obtain ⟨l3, pos⟩ := h2 ask (List.mem_of_getElem? ea)
    refine ⟨_, rfl, rfl, _, _, rfl, _, _, rfl, rfl, ?_⟩
    refine ⟨_, rfl, _, rfl, ?_⟩
    refine lc_map (g := fun a => .bl (decide (a.2 ∈ E))) (sz_of (by omega)) (fun a ha m2 Q N sm hq => ⟨_, rfl, rfl, _, _, rfl, _, _, rfl, rfl, fun _ => ⟨_, rfl, _, rfl, _, memD_nats, _, rfl, fun e => ?_, fun e => ?_⟩, nofun⟩) ?_
    · have e : decide (a.2 ∈ E) = true := e
      have p1 := pos a ha
      rw [e] at hq
      refine ⟨_, rfl, _, _, rfl, rfl, _, rfl, fun _ => hq, fun e2 => ?_⟩
      have := of_decide_eq_false e2
      omega
    · have e : decide (a.2 ∈ E) = false := e
      rw [e] at hq
      exact hq
    · refine ⟨_, ask.map fun a : Nat × Nat => decide (a.2 ∈ E), rfl, bls (p := fun a : Nat × Nat => decide (a.2 ∈ E)), ?_⟩
      rw [List.all_map]
      refine ⟨_, rfl, fun e => ?_, fun e => ?_⟩
      · have e := List.all_eq_true.mp e
        exact ⟨_, rfl, _, SubM.refl _, h y ⟨ask, ea, fun a ha => of_decide_eq_true (e a ha)⟩⟩
      · refine ⟨rfl, ⟨_, _, _, _, rfl⟩, fun j hj => ?_⟩
        by_cases e2 : j = y
        · subst e2
          rintro ⟨ask', e3, e4⟩
          rw [ea] at e3
          have e3 := Option.some.inj e3
          subst e3
          have : (ask.all (id ∘ fun a : Nat × Nat => decide (a.2 ∈ E))) = true := List.all_eq_true.mpr fun a ha => decT (e4 a ha)
          rw [this] at e
          cases e
        · exact hno j (by omega)
  · rintro δ m' ⟨rfl, ⟨x3, x4, x5, x6, rfl⟩, hno⟩
    obtain ⟨j, hj⟩ := hex
    rw [List.length_range] at hno
    have : j < asks.length := by obtain ⟨ask, e, _⟩ := hj; exact (List.getElem?_eq_some_iff.mp e).1
    exact absurd hj (hno j this)

abbrev st_endless_rows : Stmt := topS 57
theorem sc_endless_rows : FnScope ["game", "ends", "ranks", "found", "rank", "asks", "at", "ask"] ["game", "ends"] (defScope st_endless_rows) := ⟨rfl, rfl, rfl, by decide +kernel, rfl, by decide +kernel, by decide +kernel⟩
def sp_endless_rows : DSp := fun ds m Kd => ds.length = 2 ∧ ∃ G E, Game.Ok G ∧ E.Nodup ∧ E ≠ [] ∧ (∀ x ∈ E, x < G.length ∧ metP G x = false ∧ ∃ j, goodAsk E (G.getD x []) j) ∧ ds = [gameD G, .lst (E.map nD)] ∧
  ∀ F : List (Nat × Nat), (F.map (·.1)).Perm E → (∀ x ∈ F, goodAsk E (G.getD x.1 []) x.2) → Kd (.tup (F.map e3)) m
theorem ok_endless_rows {f : Addr} {fd : FuncData} (F : Fun K "endless_rows" "endless_rows" st_endless_rows f fd) (T : Txt mg) (G_first_forcing : Fd P w K mg base 1 "first_forcing" ["asks", "ends", "ranks"] sp_first_forcing) : FnOk P w K mg base CX0 2 f fd ["game", "ends"] (spD K sp_endless_rows) := by
  refine fn_d F sc_endless_rows (fun _ _ _ h => h.1) fun cdv A outer s H E hr => ⟨_, (qss_cons (qs_set (i := 2) sc_endless_rows.nd rfl (by first | exact .inl rfl | exact .inr rfl) q_newI)
 (qss_cons (qs_set (i := 3) sc_endless_rows.nd rfl (by first | exact .inl rfl | exact .inr rfl) (q_lstc qa_nil))
 (qss_cons (qs_for (vs := [4]) PassesOwn.never rfl (qi_range (by rfl) T.rng (qa_cons (q_callB call_lenA liftLen (by rfl) T.len (by decide +kernel) (qa_cons (qv 1) qa_nil)) qa_nil)) (qg_name (i := 4) sc_endless_rows.nd rfl (by first | exact .inl rfl | exact .inr rfl))
 (qss_cons (qs_setDc (i := 5) (own := [("at", 6)]) rfl sc_endless_rows.nd rfl rfl (sw_trueD rfl rfl rfl (by decide +kernel)) (qi_list (qv 1)) (blkOk_by (by kernel_rfl)) (fun _ _ _ _ _ => (qg_name (i := 6) sc_endless_rows.nd rfl (by first | exact .inl rfl | exact .inr rfl))) (fun _ _ _ _ _ => (qts_one (qt_cmp (op_notInA (hu_of hr)) (liftIn true) (qv 6) (qv 2) (by rfl)))) (fun _ _ _ _ _ => (qv 6)) (fun _ _ _ _ _ => (q_fd G_first_forcing (hr.mono (by decide)) (by rfl) (qa_cons (q_ix (qv 0) (qv 6)) (qa_cons (qv 1) (qa_cons (qv 2) qa_nil))))))
 (qss_one (qs_for (vs := [6, 7]) PassesOwn.never rfl (qi_items (qv 5)) (qg_tup (n := 2) rfl (qgs_cons (qg_name (i := 6) sc_endless_rows.nd rfl (by first | exact .inl rfl | exact .inr rfl)) (qgs_cons (qg_name (i := 7) sc_endless_rows.nd rfl (by first | exact .inl rfl | exact .inr rfl)) qgs_nil)))
 (qss_one (qs_if (qt_cmp op_notN liftNotN (qv 7) q_non (nomark _))
 (qss_cons (qs_dput (hu_of hr) (qv 2) (qv 6) (qv 4))
 (qss_one (qs_expr (q_append (qv 3) (qa_cons (q_tup (qa_cons (qv 6) (qa_cons (qv 7) (qa_cons (qv 4) qa_nil)))) qa_nil)))))
 qss_nil))))))
 (qss_one (qs_ret (q_callTy call_tuple_of liftTup (by rfl) T.tup (by decide +kernel) (qa_cons (q_callB (cr_sortedA (hu65 hr)) liftSorted (by rfl) T.sorted (by decide +kernel) (qa_cons (qv 3) qa_nil)) qa_nil))))))), fun ds m Kd h => ?_⟩
  obtain ⟨_, G, E1, ok, nd, hne, hE, rfl, h⟩ := h
  have g2 := ok.g2
  have hlen : E1.length ≤ G.length := nodup_len nd fun x hx => (hE x hx).1
  intro rk hrk
  refine ⟨Nat.zero_le _, fun fd hfd => ?_⟩
  have nrf : rk ≠ fd := fun e => by rw [← e, updM_same] at hfd; cases hfd
  have hfd0 : m fd = none := by rw [updM_ne (Ne.symm nrf)] at hfd; exact hfd
  refine ⟨_, rfl, _, _, rfl, by show some (List.length _) = _; rw [List.length_map], _, rfl, by omega, by omega, ?_⟩
  rw [rg0, Int.toNat_natCast]
  refine for_T (fun r δ m' => ∃ rs F x4 x5 x6 x7, δ = [some (gameD G), some (.lst (E1.map nD)), some (.ref rk), some (.ref fd), x4, x5, x6, x7] ∧ m' = EM m rk fd rs F ∧ ((r = 0 ∧ rs = [] ∧ F = []) ∨ (0 < r ∧ rs = E1 ∧ F.map (·.1) = E1 ∧ ∀ x ∈ F, goodAsk E1 (G.getD x.1 []) x.2))) ⟨[], [], _, _, _, _, rfl, rfl, .inl ⟨rfl, rfl, rfl⟩⟩ ?_ ?_
  · rintro r y δ m' hy ⟨rs, F, x4, x5, x6, x7, rfl, rfl, hc⟩
    obtain ⟨rfl, hr'⟩ := range_get hy
    refine ⟨(by show 5 < 8; decide), _, rfl, _, rfl, ?_⟩
    refine dc_relf (ys := E1) (enc := nD) (k := fun x => ((x : Nat) : Int)) (pt := fun x => decide (x ∉ rs)) (Rl := fun x d => ∃ j : Nat, d = nD j ∧ goodAsk E1 (G.getD x []) j) (sz_of (by omega)) (nat_nd nd) (fun x hx m2 Q N sm hq hn => ?_) (fun acc ha hrel => ?_)
    · have lk : look m2 (.ref rk) = .dI (natD rs fun _ => nD 0) := by
        show (m2 rk).getD _ = _
        rw [sm rk _ (EM_r nrf)]
        rfl
      have mr : memD (look m2 (.ref rk)) (nD x) = some (decide (x ∈ rs)) := by
        rw [lk]
        exact congrArg some mem_nat
      obtain ⟨hxN, um, hj⟩ := hE x hx
      have hm := getD_mem hxN
      refine ⟨_, rfl, _, rfl, _, mr, _, rfl, fun e => ?_, fun e => ?_⟩
      · have e : (!decide (x ∈ rs)) = true := e
        refine ⟨_, rfl, _, rfl, _, rfl, _, _, posD (G.getD x []), rfl, rfl, atI_nat (by rw [List.getElem?_map, List.getElem?_eq_getElem hxN, getD_at (List.getElem?_eq_getElem hxN)]; rfl), _, rfl, _, rfl, rfl, G.getD x [], E1, _, ok.a2 _ hm, fun ask ha => ⟨ok.b2 _ hm ask ha, ok.pos hxN um ask ha⟩, hj, rfl, fun j hj => ⟨_, rfl, hq (decT (by simpa using e)) _ ⟨j, rfl, hj⟩⟩⟩
      · have e : (!decide (x ∈ rs)) = false := e
        exact hn (decF (by simpa using e))
    · refine ⟨_, rfl, _, rfl, ?_⟩
      rw [List.map_map]
      rcases hc with ⟨rfl, rfl, rfl⟩ | ⟨hy0, rfl, hF, hg⟩
      · have ha2 : acc.map (·.1) = E1 := by rw [ha]; exact List.filter_eq_self.mpr fun x _ => decT (by simp)
        have hal : acc.length ≤ 36 := by rw [← List.length_map (f := fun x : Nat × D => x.1), ha2]; omega
        refine for_T (ys := acc) (enc := fun x => .tup [nD x.1, x.2]) (fun i δ m' => ∃ F x6 x7, δ = [some (gameD G), some (.lst (E1.map nD)), some (.ref rk), some (.ref fd), some (nD 0), some (.dI (acc.map fun x => (((x.1 : Nat) : Int), x.2))), x6, x7] ∧ m' = EM m rk fd ((acc.take i).map (·.1)) F ∧ F.map (·.1) = (acc.take i).map (·.1) ∧ ∀ x ∈ F, goodAsk E1 (G.getD x.1 []) x.2) ⟨[], _, _, rfl, rfl, rfl, fun x hx => absurd hx (by simp)⟩ ?_ ?_
        · rintro i ⟨x, d⟩ δ m' hx ⟨F, y6, y7, rfl, rfl, hF, hg⟩
          have hi : i < acc.length := (List.getElem?_eq_some_iff.mp hx).1
          have hmem := List.mem_of_getElem? hx
          obtain ⟨j, e, hj⟩ := hrel _ hmem
          have e : d = nD j := e
          subst e
          have hnot : x ∉ (acc.take i).map (·.1) := fun z1 => by
            have nd' := nd
            rw [← ha2, ← List.take_append_drop i acc, List.map_append, List.drop_eq_getElem_cons hi, (List.getElem?_eq_some_iff.mp hx).2, List.map_cons] at nd'
            exact (List.nodup_append.mp nd').2.2 x z1 x (List.mem_cons_self ..) rfl
          have hFl : F.length ≤ 36 := by
            have := congrArg List.length hF
            rw [List.length_map, List.length_map, List.length_take] at this
            omega
          have hk : ((x : Nat) : Int) ∉ keyI (natD ((acc.take i).map (·.1)) fun _ => nD 0) := fun z => by
            have := mem_nat (l := (acc.take i).map (·.1)) (f := fun _ => nD 0) (t := x)
            rw [getI_some, decT z, decF hnot] at this
            cases this
          have ep : putI (natD ((acc.take i).map (·.1)) fun _ => nD 0) ((x : Nat) : Int) (nD 0) = natD ((acc.take (i + 1)).map (·.1)) fun _ => nD 0 := by
            rw [putI_new hk, take_succ hx, List.map_append]
            unfold natD
            rw [List.map_append]
            rfl
          refine ⟨_, rfl, rfl, _, _, rfl, _, _, rfl, rfl, ?_⟩
          refine ⟨_, rfl, rfl, .inr (.inl ⟨⟨_, rfl⟩, _, rfl, fun _ => ?_, nofun⟩)⟩
          refine ⟨_, rfl, _, rfl, _, rfl, rk, _, .dI (natD ((acc.take (i + 1)).map (·.1)) fun _ => nD 0), rfl, EM_r nrf, ?_, ?_⟩
          · show (if (natD ((acc.take i).map (·.1)) fun _ => nD 0).length < sizeLine then some (D.dI (putI (natD ((acc.take i).map (·.1)) fun _ => nD 0) ((x : Nat) : Int) (nD 0))) else none) = _
            rw [if_pos (by rw [List.length_map, List.length_map, List.length_take, sizeLine_eq]; omega), ep]
          rw [EM_pr nrf]
          refine ⟨_, rfl, fd, _, rfl, EM_f, _, rfl, _, rfl, _, rfl, sz_of (by decide : 3 ≤ 1000), _, _, rfl, EM_f, by rw [List.length_map, sizeLine_eq]; omega, ?_⟩
          have ef : F.map e3 ++ [D.tup [nD x, nD j, nD 0]] = (F ++ [(x, j)]).map e3 := by rw [List.map_append]; rfl
          rw [ef, EM_pf]
          refine ⟨F ++ [(x, j)], _, _, rfl, rfl, by rw [List.map_append, hF, take_succ hx, List.map_append]; rfl, fun z hz => ?_⟩
          rcases List.mem_append.mp hz with hz | hz
          · exact hg z hz
          · rw [List.mem_singleton.mp hz]; exact hj
        · rintro δ m' ⟨F, y6, y7, rfl, rfl, hF, hg⟩
          rw [List.take_length, ha2] at hF ⊢
          exact ⟨_, F, _, _, _, _, rfl, rfl, .inr ⟨Nat.succ_pos _, rfl, hF, hg⟩⟩
      · have ha2 : acc = [] := by
          have : acc.map (·.1) = [] := by rw [ha]; exact List.filter_eq_nil_iff.mpr fun x hx => by simp [hx]
          exact List.map_eq_nil_iff.mp this
        subst ha2
        refine ⟨fun i δ m' => i = 0 ∧ δ = [some (gameD G), some (.lst (rs.map nD)), some (.ref rk), some (.ref fd), some (nD y), some (.dI []), x6, x7] ∧ m' = EM m rk fd rs F, ⟨rfl, rfl, rfl⟩, fun i x δ m hx => (by cases hx), ?_⟩
        rintro δ m' ⟨_, rfl, rfl⟩
        exact ⟨rs, F, _, _, _, _, rfl, rfl, .inr ⟨Nat.succ_pos _, rfl, hF, hg⟩⟩
  · rintro δ m' ⟨rs, F, x4, x5, x6, x7, rfl, rfl, hc⟩
    rw [List.length_range] at hc
    have hpos : 0 < E1.length := List.length_pos_iff.mpr hne
    rcases hc with ⟨z, _⟩ | ⟨_, _, hF, hg⟩
    · omega
    have hm : F.map e3 = (F.map fun x => [((x.1 : Nat) : Int), ((x.2 : Nat) : Int), 0]).map tI := by rw [List.map_map]; rfl
    have lk : look (EM m rk fd rs F) (.ref fd) = .lst ((F.map fun x => [((x.1 : Nat) : Int), ((x.2 : Nat) : Int), 0]).map tI) := by
      show (EM m rk fd rs F fd).getD _ = _
      rw [EM_f, hm]
      rfl
    refine ⟨_, rfl, _, _, rfl, lk, fun ns hns => ?_, fun iss' hp => ?_⟩
    · obtain ⟨x, _, e⟩ := List.mem_map.mp hns
      subst e
      simp
    · obtain ⟨F', p, e⟩ := perm_map_inv hp
      subst e
      refine ⟨_, _, rfl, rfl, m, ((SubM.refl m).upd hrk).upd hfd0, ?_⟩
      have := h F' ((p.map _).trans (by rw [hF])) fun x hx => hg x (p.mem_iff.mp hx)
      rw [List.map_map]
      exact this
end
end MW

end
section
set_option Elab.async false
set_option linter.all false
set_option maxRecDepth 100000
set_option pp.maxSteps 400
/-! MwI: games/totals: least_rows. -/
namespace MW
open PySem PySem.Spec PyProof.Rows L2
theorem pairs_len2 {A B : Nat} {l : List Pr} (nd : l.Nodup) (h : ∀ q ∈ l, q.1 < A ∧ q.2 < B) : l.length ≤ A * B := by
  have nd2 : (l.map fun q => q.1 * B + q.2).Nodup := by
    induction l with
    | nil => exact List.nodup_nil
    | cons x l ih =>
      obtain ⟨h1, h2⟩ := List.nodup_cons.mp nd
      rw [List.map_cons]
      refine List.nodup_cons.mpr ⟨fun z => ?_, ih h2 fun q hq => h q (List.mem_cons_of_mem _ hq)⟩
      obtain ⟨y, hy, e⟩ := List.mem_map.mp z
      have a := h x (List.mem_cons_self ..)
      have b := h y (List.mem_cons_of_mem _ hy)
      have e : y.1 * B + y.2 = x.1 * B + x.2 := e
      have hB : 0 < B := by omega
      have e1 : y.1 = x.1 := by
        have p1 : (y.1 * B + y.2) / B = y.1 := by rw [Nat.mul_comm, Nat.mul_add_div hB, Nat.div_eq_of_lt b.2]; omega
        have p2 : (x.1 * B + x.2) / B = x.1 := by rw [Nat.mul_comm, Nat.mul_add_div hB, Nat.div_eq_of_lt a.2]; omega
        rw [← p1, ← p2, e]
      have e2 : y.2 = x.2 := by rw [e1] at e; omega
      exact h1 (Prod.ext e1 e2 ▸ hy)
  have := nodup_len (n := A * B) nd2 fun x hx => by
    obtain ⟨q, hq, e⟩ := List.mem_map.mp hx
    subst e
    have a := h q hq
    have : (q.1 + 1) * B ≤ A * B := Nat.mul_le_mul_right B a.1
    rw [Nat.add_mul] at this
    show q.1 * B + q.2 < A * B
    omega
  rw [List.length_map] at this
  exact this
theorem Pw_met {G : Game} {i : Nat} (hi : i < G.length) (h : metP G i = true) : ∀ k, Pw G k i = 0
  | 0 => Pw_zero
  | k + 1 => by
    have e : G.getD i [] = [[(0, i)]] := of_decide_eq_true h
    rw [Pw_succ hi, e]
    show max (0 + (rowsP G k).getD i 0) 0 = 0
    have : (rowsP G k).getD i 0 = 0 := Pw_met hi h k
    rw [this]
    rfl
theorem first_true : ∀ {bs : List Bool}, true ∈ bs → ∃ j : Nat, bs[j]? = some true ∧ ∀ i < j, bs[i]? = some false
  | b :: bs, h => by
    cases b with
    | true => exact ⟨0, rfl, fun i hi => absurd hi (Nat.not_lt_zero i)⟩
    | false =>
      obtain ⟨j, h1, h2⟩ := first_true (bs := bs) (by simpa using h)
      refine ⟨j + 1, by simpa using h1, fun i hi => ?_⟩
      cases i with
      | zero => rfl
      | succ i => simpa using h2 i (by omega)
theorem getP_mem : ∀ {kvs : List ((Int × Int) × D)} {k : Int × Int} {d : D}, (keyP kvs).Nodup → (k, d) ∈ kvs → getP kvs k = some d
  | x :: l, k, d, nd, h => by
    obtain ⟨n1, n2⟩ := List.nodup_cons.mp (show (x.1 :: keyP l).Nodup from nd)
    unfold getP
    rw [List.find?_cons]
    rcases List.mem_cons.mp h with e | h
    · subst e; simp
    · have : ¬ x.1 = k := fun e => n1 (e ▸ List.mem_map.mpr ⟨_, h, rfl⟩)
      rw [decF this]
      exact getP_mem n2 h
abbrev Row := Pr × Pr
def r4 (e : Row) : D := .tup [nD e.1.1, nD e.1.2, nD e.2.1, nD e.2.2]
abbrev keyR (R : List Row) : List Pr := R.map (·.1)
structure LstOk (G : Game) (T : Nat) (R : List Row) : Prop where
  nd : (keyR R).Nodup
  len : R.length ≤ 144036
  root : 0 < T → (0, T) ∈ keyR R
  row : ∀ e ∈ R, e.1.1 < G.length ∧ 1 ≤ e.1.2 ∧ metP G e.1.1 = false ∧ ∃ ask, (G.getD e.1.1 [])[e.2.1]? = some ask ∧ ∀ a ∈ ask, a.1 < e.1.2 → (a.2, e.1.2 - a.1) ∈ keyR R
theorem LstOk.perm {G : Game} {T : Nat} {R R' : List Row} (h : LstOk G T R) (p : R'.Perm R) : LstOk G T R' := by
  have pk := p.map (fun e : Row => e.1)
  refine ⟨pk.nodup_iff.mpr h.nd, by rw [p.length_eq]; exact h.len, fun z => pk.mem_iff.mpr (h.root z), fun e he => ?_⟩
  obtain ⟨h1, h2, h3, ask, h4, h5⟩ := h.row e (p.mem_iff.mp he)
  exact ⟨h1, h2, h3, ask, h4, fun a ha hl => pk.mem_iff.mpr (h5 a ha hl)⟩
abbrev Wt := Nat × Int × Nat
def wD (w : Wt) : D := .tup [nD w.1, .int w.2.1, nD w.2.2]
def fD (fs : List Row) : List ((Int × Int) × D) := fs.map fun e => (prK e.1, prN e.2)
theorem fD_key {fs : List Row} : keyP (fD fs) = (keyR fs).map prK := by
  unfold keyP fD keyR
  rw [List.map_map, List.map_map]
  rfl
theorem fD_mem {fs : List Row} {q : Pr} : (getP (fD fs) (prK q)).isSome = decide (q ∈ keyR fs) := by
  rw [getP_some, fD_key]
  exact decide_eq_decide.mpr mem_prK
theorem fD_put {fs : List Row} {q r : Pr} (h : q ∉ keyR fs) : putP (fD fs) (prK q) (prN r) = fD (fs ++ [(q, r)]) := by
  rw [putP_new]
  · unfold fD; rw [List.map_append]; rfl
  · show prK q ∉ keyP (fD fs)
    rw [fD_key]
    exact fun z => h (mem_prK.mp z)
structure WI (G : Game) (n T : Nat) (fs : List Row) (ws : List Wt) : Prop where
  nd : (keyR fs).Nodup
  row : ∀ e ∈ fs, e.1.1 < G.length ∧ 1 ≤ e.1.2 ∧ e.1.2 ≤ T ∧ metP G e.1.1 = false ∧ ∃ ask, (G.getD e.1.1 [])[e.2.1]? = some ask ∧ ∀ a ∈ ask, a.1 < e.1.2 → (a.2, e.1.2 - a.1) ∈ keyR fs ∨ ∃ w ∈ ws, w.1 = a.2 ∧ w.2.1 = ((e.1.2 - a.1 : Nat) : Int)
  wt : ∀ w ∈ ws, w.1 < G.length ∧ w.2.2 ≤ n ∧ w.2.1 ≤ (T : Nat) ∧ w.2.1 ≤ (Pw G w.2.2 w.1 : Nat)
  root : 0 < T → (0, T) ∈ keyR fs ∨ ∃ w ∈ ws, w.1 = 0 ∧ w.2.1 = ((T : Nat) : Int)
  few : ws.length ≤ 1 + 2 * fs.length
theorem WI.len {G : Game} {n T : Nat} {fs : List Row} {ws : List Wt} (h : WI G n T fs ws) : fs.length ≤ G.length * (T + 1) := by
  have := pairs_len2 (A := G.length) (B := T + 1) h.nd fun q hq => by
    obtain ⟨e, he, rfl⟩ := List.mem_map.mp hq
    obtain ⟨h1, _, h2, _⟩ := h.row e he
    exact ⟨h1, Nat.lt_succ_of_le h2⟩
  rw [List.length_map] at this
  exact this
abbrev WM (m : Mem) (fd wt : Addr) (fs : List Row) (ws : List Wt) : Mem := updM (updM m fd (.dP (fD fs))) wt (.lst (ws.map wD))
section
variable {m : Mem} {fd wt : Addr} {fs fs' : List Row} {ws ws' : List Wt}
theorem WM_f (n : fd ≠ wt) : WM m fd wt fs ws fd = some (.dP (fD fs)) := by
  show updM (updM m fd _) wt _ fd = _
  rw [updM_ne n, updM_same]
theorem WM_w : WM m fd wt fs ws wt = some (.lst (ws.map wD)) := updM_same
theorem WM_pf (n : fd ≠ wt) : updM (WM m fd wt fs ws) fd (.dP (fD fs')) = WM m fd wt fs' ws := by
  show updM (updM (updM m fd _) wt _) fd _ = updM (updM m fd _) wt _
  rw [← updM_comm n, updM_updM]
theorem WM_pw : updM (WM m fd wt fs ws) wt (.lst (ws'.map wD)) = WM m fd wt fs ws' := updM_updM
end
section
variable {P : Program} {w : World} {K : PySem.W.Frag} {mg : Str → Option Value} {base : Heap}
abbrev st_least_rows : Stmt := topS 55
theorem sc_least_rows : FnScope ["game", "rows", "total", "found", "waiting", "at", "owed", "steps", "ask", "price", "there", "key"] ["game", "rows", "total"] (defScope st_least_rows) := ⟨rfl, rfl, rfl, by decide +kernel, rfl, by decide +kernel, by decide +kernel⟩
def sp_least_rows : DSp := fun ds m Kd => ds.length = 3 ∧ ∃ G n T, Game.Ok G ∧ T ≤ 4000 ∧ T ≤ Pw G n 0 ∧ ds = [gameD G, .lst ((List.range (n + 1)).map (rowD G)), nD T] ∧ ∀ R, LstOk G T R → Kd (.tup (R.map r4)) m
theorem ok_least_rows {f : Addr} {fd : FuncData} (F : Fun K "least_rows" "least_rows" st_least_rows f fd) (T : Txt mg) (G_least_of : Fd P w K mg base 1 "least_of" ["ask", "row"] sp_least_of) : FnOk P w K mg base CX0 2 f fd ["game", "rows", "total"] (spD K sp_least_rows) := by
  refine fn_d F sc_least_rows (fun _ _ _ h => h.1) fun cdv A outer s H E hr => ⟨_, (qss_cons (qs_set (i := 3) sc_least_rows.nd rfl (by first | exact .inl rfl | exact .inr rfl) q_newP)
 (qss_cons (qs_set (i := 4) sc_least_rows.nd rfl (by first | exact .inl rfl | exact .inr rfl) (q_lstc (qa_cons (q_tup (qa_cons q_int (qa_cons (qv 2) (qa_cons (q_op op_sub liftI0 (q_callB call_lenA liftLen (by rfl) T.len (by decide +kernel) (qa_cons (qv 1) qa_nil)) q_int) qa_nil)))) qa_nil)))
 (qss_cons (qs_while PassesOwn.never (qt_cmp op_gt liftB0 (q_callB call_lenA liftLen (by rfl) T.len (by decide +kernel) (qa_cons (qv 4) qa_nil)) q_int (nomark _))
 (qss_cons (qs_asg (vs := [5, 6, 7]) (q_pop (qv 4)) (qg_tup (n := 3) rfl (qgs_cons (qg_name (i := 5) sc_least_rows.nd rfl (by first | exact .inl rfl | exact .inr rfl)) (qgs_cons (qg_name (i := 6) sc_least_rows.nd rfl (by first | exact .inl rfl | exact .inr rfl)) (qgs_cons (qg_name (i := 7) sc_least_rows.nd rfl (by first | exact .inl rfl | exact .inr rfl)) qgs_nil)))))
 (qss_one (qs_if (PW.pt (qw_and (qt_cmp op_gt liftB0 (qv 6) q_int (nomark _)) (qw_and1 (qt_cmp (op_notInA (hu_of hr)) (liftIn true) (q_tup (qa_cons (qv 5) (qa_cons (qv 6) qa_nil))) (qv 3) (by rfl)))))
 (qss_cons (qs_while PassesOwn.never (qt_cmp op_ge liftB0 (q_ix (q_ix (qv 1) (q_op op_sub liftI0 (qv 7) q_int)) (qv 5)) (qv 6) (nomark _))
 (qss_one (qs_aug (i := 7) ip_sub sc_least_rows.nd rfl (by first | exact .inl rfl | exact .inr rfl) q_int)))
 (qss_cons (qs_set (i := 8) sc_least_rows.nd rfl (by first | exact .inl rfl | exact .inr rfl) (q_index (hu65 hr) (q_lc (own := [("ask", 8)]) rfl sc_least_rows.nd (qi_tup (q_ix (qv 0) (qv 5))) (blkOk_by (by kernel_rfl)) (fun _ _ _ _ _ => (qg_name (i := 8) sc_least_rows.nd rfl (by first | exact .inl rfl | exact .inr rfl))) (fun _ _ _ _ _ => qts_nil) (fun _ _ _ _ _ => (q_cmp op_ge liftB0 (q_fd G_least_of (hr.mono (by decide)) (by rfl) (qa_cons (qv 8) (qa_cons (q_ix (qv 1) (q_op op_sub liftI0 (qv 7) q_int)) qa_nil))) (qv 6) (nomark _)))) (qa_cons q_bl qa_nil)))
 (qss_cons (qs_dput (hu_of hr) (qv 3) (q_tup (qa_cons (qv 5) (qa_cons (qv 6) qa_nil))) (q_tup (qa_cons (qv 8) (qa_cons (q_op op_sub liftI0 (qv 7) q_int) qa_nil))))
 (qss_one (qs_for (vs := [9, 10]) PassesOwn.never rfl (qi_tup (q_ix (q_ix (qv 0) (qv 5)) (qv 8))) (qg_tup (n := 2) rfl (qgs_cons (qg_name (i := 9) sc_least_rows.nd rfl (by first | exact .inl rfl | exact .inr rfl)) (qgs_cons (qg_name (i := 10) sc_least_rows.nd rfl (by first | exact .inl rfl | exact .inr rfl)) qgs_nil)))
 (qss_one (qs_expr (q_append (qv 4) (qa_cons (q_tup (qa_cons (qv 10) (qa_cons (q_op op_sub liftI0 (qv 6) (qv 9)) (qa_cons (q_op op_sub liftI0 (qv 7) q_int) qa_nil)))) qa_nil)))))))))
 qss_nil))))
 (qss_one (qs_sealS 3 (qs_ret (q_callTy call_tuple_of liftTup (by rfl) T.tup (by decide +kernel) (qa_cons (q_callB (cr_sortedA (hu65 hr)) liftSorted (by rfl) T.sorted (by decide +kernel) (qa_cons (q_lc (own := [("key", 11)]) rfl sc_least_rows.nd (qi_keysP (qv 3)) (blkOk_by (by kernel_rfl)) (fun _ _ _ _ _ => (qg_name (i := 11) sc_least_rows.nd rfl (by first | exact .inl rfl | exact .inr rfl))) (fun _ _ _ _ _ => qts_nil) (fun _ _ _ _ _ => (q_op op_catA liftCat (qv 11) (q_dget (hu_of hr) (qv 3) (qv 11))))) qa_nil)) qa_nil)))))))), fun ds m Kd h => ?_⟩
  obtain ⟨_, G, n, T, ok, hT, hP, rfl, h⟩ := h
  have g1 := ok.g1
  have g2 := ok.g2
  have z3 : 3 ≤ sizeLine := sz_of (by decide)
  have z2 : 2 ≤ sizeLine := sz_of (by decide)
  have hK : G.length * (T + 1) ≤ 36 * 4001 := Nat.mul_le_mul g2 (by omega)
  intro fd hfd
  have el : (((n + 1 : Nat) : Int) - 1) = ((n : Nat) : Int) := by omega
  refine ⟨_, rfl, _, rfl, _, n + 1, rfl, by show some (List.length _) = _; rw [List.length_map, List.length_range], _, _, rfl, rfl, z3, sz_of (by decide : 1 ≤ 1000), fun wt hwt => ?_⟩
  have nfw : fd ≠ wt := fun e => by rw [← e, updM_same] at hwt; cases hwt
  have hwt0 : m wt = none := by rw [updM_ne (Ne.symm nfw)] at hwt; exact hwt
  have e0 : updM (updM m fd (.dP [])) wt (.lst [.tup [.int 0, nD T, .int (((n + 1 : Nat) : Int) - 1)]]) = WM m fd wt [] [(0, ((T : Nat) : Int), n)] := by rw [el]; rfl
  refine ⟨fun k δ m' => ∃ fs ws x5 x6 x7 x8 x9 x10 x11, δ = [some (gameD G), some (.lst ((List.range (n + 1)).map (rowD G))), some (nD T), some (.ref fd), some (.ref wt), x5, x6, x7, x8, x9, x10, x11] ∧ m' = WM m fd wt fs ws ∧ WI G n T fs ws ∧ k = 1 + 4 * (G.length * (T + 1)) - 4 * fs.length + ws.length,
    ⟨_, [], [(0, ((T : Nat) : Int), n)], _, _, _, _, _, _, _, rfl, e0, ⟨List.nodup_nil, fun e he => absurd he (by simp), fun w hw => by rw [List.mem_singleton.mp hw]; exact ⟨by omega, Nat.le_refl _, Int.le_refl _, by show ((T : Nat) : Int) ≤ ((Pw G n 0 : Nat) : Int); omega⟩, fun _ => .inr ⟨_, List.mem_singleton.mpr rfl, rfl, rfl⟩, by simp⟩, rfl⟩, ?_⟩
  rintro k δ m' ⟨fs, ws, x5, x6, x7, x8, x9, x10, x11, rfl, rfl, I, rfl⟩
  have hfl := I.len
  have hfew := I.few
  have lw : lenD (look (WM m fd wt fs ws) (.ref wt)) = some ws.length := by
    show lenD ((WM m fd wt fs ws wt).getD _) = _
    rw [WM_w]
    show some (List.length _) = _
    rw [List.length_map]
  refine ⟨_, rfl, _, _, rfl, lw, _, _, rfl, rfl, _, rfl, fun e => ?_, fun e => ?_⟩
  · have e := of_decide_eq_true e
    have hne : ws ≠ [] := fun z => by rw [z] at e; simp at e
    obtain ⟨ws', w, ews⟩ : ∃ l x, ws = l ++ [x] := ⟨ws.dropLast, ws.getLast hne, (List.dropLast_concat_getLast hne).symm⟩
    subst ews
    obtain ⟨at0, ow, st0⟩ := w
    have wall : at0 < G.length ∧ st0 ≤ n ∧ ow ≤ (T : Nat) ∧ ow ≤ (Pw G st0 at0 : Nat) := I.wt (at0, ow, st0) (by simp)
    obtain ⟨w1, w2, w3, w4⟩ := wall
    have lst : ((ws' ++ [(at0, ow, st0)]).map wD)[((ws' ++ [(at0, ow, st0)]).map wD).length - 1]? = some (wD (at0, ow, st0)) := by
      rw [List.map_append, List.length_append]
      show (ws'.map wD ++ [wD (at0, ow, st0)])[_ + 1 - 1]? = _
      rw [Nat.add_sub_cancel, List.getElem?_append_right (Nat.le_refl _), Nat.sub_self]
      rfl
    refine ⟨_, rfl, wt, _, _, rfl, WM_w, lst, _, rfl, rfl, _, _, rfl, _, _, rfl, _, _, rfl, rfl, ?_⟩
    have edl : ((ws' ++ [(at0, ow, st0)]).map wD).dropLast = ws'.map wD := by rw [List.map_append]; exact List.dropLast_concat
    rw [edl, WM_pw]
    rw [List.length_append, List.length_singleton] at hfew
    -- what is left when nothing is put
    have less : (ow ≤ 0 ∨ ∃ o : Nat, ow = (o : Nat) ∧ 1 ≤ o ∧ (at0, o) ∈ keyR fs) → WI G n T fs ws' := fun hd => by
      have drop : ∀ {x : Nat} {i : Nat}, 1 ≤ i → ((x, i) ∈ keyR fs ∨ ∃ w ∈ ws' ++ [(at0, ow, st0)], w.1 = x ∧ w.2.1 = ((i : Nat) : Int)) → ((x, i) ∈ keyR fs ∨ ∃ w ∈ ws', w.1 = x ∧ w.2.1 = ((i : Nat) : Int)) := fun {x i} hi z => by
        rcases z with z | ⟨w, hw, e1, e2⟩
        · exact .inl z
        · rcases List.mem_append.mp hw with hw | hw
          · exact .inr ⟨w, hw, e1, e2⟩
          · rw [List.mem_singleton.mp hw] at e1 e2
            have e1 : at0 = x := e1
            have e2 : ow = ((i : Nat) : Int) := e2
            rcases hd with hd | ⟨o, h1, h2, h3⟩
            · omega
            · have : o = i := by omega
              subst this e1
              exact .inl h3
      refine ⟨I.nd, fun e he => ?_, fun w hw => I.wt w (List.mem_append_left _ hw), fun z => drop z (I.root z), by omega⟩
      obtain ⟨h1, h2, h3, h4, ask, h5, h6⟩ := I.row e he
      exact ⟨h1, h2, h3, h4, ask, h5, fun a ha hl => drop (by omega) (h6 a ha hl)⟩
    have again : WI G n T fs ws' → ∀ x8 x9 x10 x11, ∃ k', k' < 1 + 4 * (G.length * (T + 1)) - 4 * fs.length + (ws' ++ [(at0, ow, st0)]).length ∧ ∃ fs2 ws2 y5 y6 y7 y8 y9 y10 y11, [some (gameD G), some (.lst ((List.range (n + 1)).map (rowD G))), some (nD T), some (.ref fd), some (.ref wt), some (nD at0), some (.int ow), some (nD st0), x8, x9, x10, x11] = [some (gameD G), some (.lst ((List.range (n + 1)).map (rowD G))), some (nD T), some (.ref fd), some (.ref wt), y5, y6, y7, y8, y9, y10, y11] ∧ WM m fd wt fs ws' = WM m fd wt fs2 ws2 ∧ WI G n T fs2 ws2 ∧ k' = 1 + 4 * (G.length * (T + 1)) - 4 * fs2.length + ws2.length := fun I' x8 x9 x10 x11 =>
      ⟨_, by rw [List.length_append, List.length_singleton]; omega, fs, ws', _, _, _, _, _, _, _, rfl, rfl, I', rfl⟩
    refine ⟨_, rfl, _, _, rfl, rfl, _, rfl, fun e1 => ?_, fun e1 => ⟨nofun, fun _ => again (less (.inl (by have e1 : ¬ ow > 0 := of_decide_eq_false e1; omega))) _ _ _ _⟩⟩
    have e1 : ow > 0 := of_decide_eq_true e1
    obtain ⟨o, rfl⟩ : ∃ o : Nat, ow = (o : Nat) := ⟨ow.toNat, by omega⟩
    have ho : 1 ≤ o := by omega
    have md : memD (look (WM m fd wt fs ws') (.ref fd)) (prN (at0, o)) = some (decide ((at0, o) ∈ keyR fs)) := by
      show memD ((WM m fd wt fs ws' fd).getD _) _ = _
      rw [WM_f nfw]
      exact congrArg some fD_mem
    refine ⟨_, rfl, _, rfl, z2, _, rfl, _, md, _, rfl, fun e2 => ?_, fun e2 => ?_⟩
    rotate_left
    · have e2 : (!decide ((at0, o) ∈ keyR fs)) = false := e2
      exact again (less (.inr ⟨o, rfl, ho, by simpa using e2⟩)) _ _ _ _
    have e2 : (!decide ((at0, o) ∈ keyR fs)) = true := e2
    have hnk : (at0, o) ∉ keyR fs := by simpa using e2
    have lrow : ∀ {i : Nat}, i ≤ n → atI ((List.range (n + 1)).map (rowD G)) ((i : Nat) : Int) = some (rowD G i) := fun {i} hi => atI_nat (by rw [List.getElem?_map, List.getElem?_range (by omega)]; rfl)
    refine ⟨fun k δ m' => ∃ st, δ = [some (gameD G), some (.lst ((List.range (n + 1)).map (rowD G))), some (nD T), some (.ref fd), some (.ref wt), some (nD at0), some (.int (o : Nat)), some (nD st), x8, x9, x10, x11] ∧ m' = WM m fd wt fs ws' ∧ o ≤ Pw G st at0 ∧ st ≤ n ∧ k = st, ⟨_, st0, rfl, rfl, by omega, w2, rfl⟩, ?_⟩
    rintro st δ m' ⟨k', rfl, rfl, hst, hsn, rfl⟩
    have hs1 : 1 ≤ st := by
      rcases Nat.eq_zero_or_pos st with z | z
      · rw [z, Pw_zero] at hst; omega
      · exact z
    have es : ((st : Nat) : Int) - 1 = ((st - 1 : Nat) : Int) := by omega
    refine ⟨_, rfl, _, rfl, _, _, rfl, rfl, _, _, rowD G (st - 1), rfl, rfl, by rw [es]; exact lrow (by omega), _, rfl, _, _, _, rfl, rfl, rowD_at w1, _, rfl, _, _, rfl, rfl, _, rfl, fun e3 => ?_, fun e3 => ?_⟩
    · have e3 := of_decide_eq_true e3
      exact ⟨_, rfl, _, rfl, st - 1, by omega, st - 1, by show [_, _, _, _, _, _, _, some (D.int (((st : Nat) : Int) - 1)), _, _, _, _] = _; rw [es], rfl, by omega, by omega, rfl⟩
    · have e3 := of_decide_eq_false e3
      have hm := getD_mem w1
      have eg : G[at0]? = some (G.getD at0 []) := by rw [getD_at (List.getElem?_eq_getElem w1)]; exact List.getElem?_eq_getElem w1
      have lga : atI (G.map posD) ((at0 : Nat) : Int) = some (posD (G.getD at0 [])) := atI_nat (by rw [List.getElem?_map, eg]; rfl)
      have a2 := ok.a2 _ hm
      have a1 := ok.a1 _ hm
      have hlr : atI ((List.range (n + 1)).map (rowD G)) (((st : Nat) : Int) - 1) = some (rowD G (st - 1)) := by rw [es]; exact lrow (by omega)
      have hPs : Pw G st at0 = maxL ((G.getD at0 []).map fun ask => leastOf ask (rowsP G (st - 1))) := by
        have := Pw_succ (G := G) (k := st - 1) w1
        rwa [Nat.sub_add_cancel hs1] at this
      have um : metP G at0 = false := Bool.eq_false_iff.mpr fun z => by rw [Pw_met w1 z] at hst; omega
      have hex : true ∈ (G.getD at0 []).map fun ask => decide (o ≤ leastOf ask (rowsP G (st - 1))) := by
        have hmx := maxL_mem (l := (G.getD at0 []).map fun ask => leastOf ask (rowsP G (st - 1))) fun z => by
          have := congrArg List.length z
          rw [List.length_map] at this
          have : (G.getD at0 []).length = 0 := this
          omega
        obtain ⟨ask, ha, e⟩ := List.mem_map.mp hmx
        exact List.mem_map.mpr ⟨ask, ha, decT (by rw [e, ← hPs]; exact hst)⟩
      obtain ⟨j, hj, hbf⟩ := first_true hex
      refine ⟨_, rfl, _, rfl, _, _, posD (G.getD at0 []), rfl, rfl, lga, _, rfl, ?_⟩
      refine lc_map (ys := G.getD at0 []) (enc := askD) (g := fun ask => .bl (decide (o ≤ leastOf ask (rowsP G (st - 1))))) (sz_of (by omega)) (fun ask ha m2 Q N sm hq => ⟨fun _ => ?_, nofun⟩) ?_
      · have ed : decide (((leastOf ask (rowsP G (st - 1)) : Nat) : Int) ≥ (o : Nat)) = decide (o ≤ leastOf ask (rowsP G (st - 1))) := decide_eq_decide.mpr (by omega)
        rw [← ed] at hq
        exact ⟨_, rfl, _, rfl, _, rfl, _, _, rfl, rfl, _, _, rowD G (st - 1), rfl, rfl, hlr, rfl, _, ⟨ask, rowsP G (st - 1), ok.b1 _ hm ask ha, ok.b2 _ hm ask ha, fun a haa => by rw [rowsP_len]; exact ok.there _ hm ask ha a haa, rfl, rfl⟩, _, rfl, _, _, rfl, rfl, hq⟩
      · rw [List.getElem?_map] at hj
        cases eask : (G.getD at0 [])[j]? with
        | none => rw [eask] at hj; cases hj
        | some ask =>
        rw [eask] at hj
        have hj : decide (o ≤ leastOf ask (rowsP G (st - 1))) = true := Option.some.inj hj
        have hja := of_decide_eq_true hj
        have ham := List.mem_of_getElem? eask
        have b1 := ok.b1 _ hm ask ham
        have b2 := ok.b2 _ hm ask ham
        have hge := (least_ge b1).mp hja
        refine ⟨_, rfl, .bl true, _, j, .bl true, rfl, rfl, List.all_eq_true.mpr fun d hd => ?_, rfl, by rw [List.getElem?_map, eask]; show some (D.bl _) = _; rw [hj], by rw [eqD_bl]; rfl, fun i z' hi hz => ?_, ?_⟩
        · obtain ⟨_, _, e⟩ := List.mem_map.mp hd
          subst e
          rfl
        · have hb := hbf i hi
          rw [List.getElem?_map] at hb hz
          cases ei : (G.getD at0 [])[i]? with
          | none => rw [ei] at hb; cases hb
          | some ask2 =>
            rw [ei] at hb hz
            have hb := Option.some.inj hb
            have hz := Option.some.inj hz
            have hb : decide (o ≤ leastOf ask2 (rowsP G (st - 1))) = false := hb
            rw [← hz, eqD_bl, hb]
            rfl
        have epair : D.tup [.int (j : Nat), .int (((st : Nat) : Int) - 1)] = prN (j, st - 1) := by rw [es]
        refine ⟨_, rfl, _, rfl, _, _, rfl, rfl, z2, _, rfl, _, rfl, _, rfl, z2, fd, _, .dP (fD (fs ++ [((at0, o), (j, st - 1))])), rfl, WM_f nfw, ?_, ?_⟩
        · show (if (fD fs).length < sizeLine then some (D.dP (putP (fD fs) (prK (at0, o)) (.tup [.int (j : Nat), .int (((st : Nat) : Int) - 1)]))) else none) = _
          rw [if_pos (by unfold fD; rw [List.length_map, sizeLine_eq]; omega), epair, fD_put hnk]
        rw [WM_pf nfw]
        refine ⟨_, rfl, _, rfl, _, _, posD (G.getD at0 []), rfl, rfl, lga, _, rfl, _, _, askD ask, rfl, rfl, atI_nat (by rw [List.getElem?_map, eask]; rfl), _, rfl, ?_⟩
        refine for_T (ys := ask) (enc := ansN) (fun i δ m' => ∃ x9 x10 x11, δ = [some (gameD G), some (.lst ((List.range (n + 1)).map (rowD G))), some (nD T), some (.ref fd), some (.ref wt), some (nD at0), some (.int (o : Nat)), some (nD st), some (nD j), x9, x10, x11] ∧ m' = WM m fd wt (fs ++ [((at0, o), (j, st - 1))]) (ws' ++ (ask.take i).map fun a => (a.2, ((o : Nat) : Int) - ((a.1 : Nat) : Int), st - 1))) ⟨_, _, _, rfl, by simp⟩ ?_ ?_
        · rintro i a δ m' ha ⟨y9, y10, y11, rfl, rfl⟩
          have hi : i < ask.length := (List.getElem?_eq_some_iff.mp ha).1
          refine ⟨_, rfl, rfl, _, _, rfl, _, _, rfl, rfl, ?_⟩
          refine ⟨_, rfl, wt, _, rfl, WM_w, _, rfl, _, rfl, _, rfl, _, _, rfl, rfl, _, rfl, _, _, rfl, rfl, z3, _, _, rfl, WM_w, ?_, ?_⟩
          · rw [List.length_map, List.length_append, List.length_map, List.length_take, sizeLine_eq]; omega
          · have ew : (ws' ++ (ask.take i).map fun a => (a.2, ((o : Nat) : Int) - ((a.1 : Nat) : Int), st - 1)).map wD ++ [D.tup [nD a.2, .int (((o : Nat) : Int) - ((a.1 : Nat) : Int)), .int (((st : Nat) : Int) - 1)]] = (ws' ++ (ask.take (i + 1)).map fun a => (a.2, ((o : Nat) : Int) - ((a.1 : Nat) : Int), st - 1)).map wD := by
              rw [take_succ ha, List.map_append, List.map_append, List.map_append, List.map_append, List.append_assoc, es]
              rfl
            refine ⟨_, _, _, rfl, ?_⟩
            exact (congrArg (fun z => updM _ wt (.lst z)) ew).trans WM_pw
        · rintro δ m' ⟨y9, y10, y11, rfl, rfl⟩
          rw [List.take_length]
          have fl2 : (fs ++ [((at0, o), (j, st - 1))]).length = fs.length + 1 := by rw [List.length_append]; rfl
          have knew : keyR (fs ++ [((at0, o), (j, st - 1))]) = keyR fs ++ [(at0, o)] := by unfold keyR; rw [List.map_append]; rfl
          have mv : ∀ {x : Nat} {i : Nat}, ((x, i) ∈ keyR fs ∨ ∃ w ∈ ws' ++ [(at0, ((o : Nat) : Int), st0)], w.1 = x ∧ w.2.1 = ((i : Nat) : Int)) → ((x, i) ∈ keyR (fs ++ [((at0, o), (j, st - 1))]) ∨ ∃ w ∈ ws' ++ ask.map fun a => (a.2, ((o : Nat) : Int) - ((a.1 : Nat) : Int), st - 1), w.1 = x ∧ w.2.1 = ((i : Nat) : Int)) := fun {x i} z => by
            rw [knew]
            rcases z with z | ⟨w, hw, c1, c2⟩
            · exact .inl (List.mem_append_left _ z)
            · rcases List.mem_append.mp hw with hw | hw
              · exact .inr ⟨w, List.mem_append_left _ hw, c1, c2⟩
              · rw [List.mem_singleton.mp hw] at c1 c2
                have c1 : at0 = x := c1
                have c2 : ((o : Nat) : Int) = ((i : Nat) : Int) := c2
                have : o = i := by omega
                subst this c1
                exact .inl (List.mem_append_right _ (List.mem_singleton.mpr rfl))
          have I2 : WI G n T (fs ++ [((at0, o), (j, st - 1))]) (ws' ++ ask.map fun a => (a.2, ((o : Nat) : Int) - ((a.1 : Nat) : Int), st - 1)) := by
            refine ⟨?_, fun e he => ?_, fun w hw => ?_, fun z => mv (I.root z), ?_⟩
            · rw [knew]
              exact List.nodup_append.mpr ⟨I.nd, by simp, fun a ha b hb e => hnk (by rw [List.mem_singleton.mp hb] at e; exact e ▸ ha)⟩
            · rcases List.mem_append.mp he with he | he
              · obtain ⟨h1, h2, h3, h4, ask', h5, h6⟩ := I.row e he
                exact ⟨h1, h2, h3, h4, ask', h5, fun a ha hl => mv (h6 a ha hl)⟩
              · rw [List.mem_singleton.mp he]
                refine ⟨w1, ho, by show o ≤ T; omega, um, ask, eask, fun a ha hl => .inr ⟨(a.2, ((o : Nat) : Int) - ((a.1 : Nat) : Int), st - 1), List.mem_append_right _ (List.mem_map.mpr ⟨a, ha, rfl⟩), rfl, ?_⟩⟩
                have hl : a.1 < o := hl
                show ((o : Nat) : Int) - ((a.1 : Nat) : Int) = ((o - a.1 : Nat) : Int)
                omega
            · rcases List.mem_append.mp hw with hw | hw
              · exact I.wt w (List.mem_append_left _ hw)
              · obtain ⟨a, ha, e⟩ := List.mem_map.mp hw
                subst e
                have := hge a ha
                refine ⟨ok.there _ hm ask ham a ha, by show st - 1 ≤ n; omega, ?_, ?_⟩
                · show ((o : Nat) : Int) - ((a.1 : Nat) : Int) ≤ (T : Nat); omega
                · show ((o : Nat) : Int) - ((a.1 : Nat) : Int) ≤ ((Pw G (st - 1) a.2 : Nat) : Int); omega
            · rw [fl2, List.length_append, List.length_map]; omega
          have hl2 := I2.len
          rw [fl2] at hl2
          refine ⟨_, ?_, fs ++ [((at0, o), (j, st - 1))], _, _, _, _, _, _, _, _, rfl, rfl, I2, rfl⟩
          rw [fl2, List.length_append, List.length_map, List.length_append, List.length_singleton]
          omega
  · have e := of_decide_eq_false e
    have ews : ws = [] := List.eq_nil_of_length_eq_zero (by omega)
    subst ews
    have fin : LstOk G T fs := ⟨I.nd, by omega, fun z => (I.root z).elim id fun ⟨w, hw, _⟩ => absurd hw (by simp), fun e he => by
      obtain ⟨h1, h2, _, h3, ask, h4, h5⟩ := I.row e he
      exact ⟨h1, h2, h3, ask, h4, fun a ha hl => (h5 a ha hl).elim id fun ⟨w, hw, _⟩ => absurd hw (by simp)⟩⟩
    refine ⟨fd, _, rfl, WM_f nfw, trivial, ?_⟩
    refine ⟨_, rfl, _, rfl, ?_⟩
    unfold fD
    rw [List.map_map]
    refine lc_map (ys := fs) (enc := fun e => prN e.1) (g := fun e => r4 e) (by rw [sizeLine_eq]; omega) (fun e he m2 Q N sm hq => ⟨fun _ => ?_, nofun⟩) ?_
    · have nd2 : (keyP (fD fs)).Nodup := by rw [fD_key]; exact nodup_map (fun a b e => prK_inj e) I.nd
      refine ⟨_, rfl, _, rfl, _, rfl, prN e.2, getP_mem nd2 (List.mem_map.mpr ⟨e, he, rfl⟩), _, _, rfl, rfl, by simp, by simp, sz_of (by decide : 4 ≤ 1000), hq⟩
    · have hm : fs.map r4 = (fs.map fun e => [((e.1.1 : Nat) : Int), ((e.1.2 : Nat) : Int), ((e.2.1 : Nat) : Int), ((e.2.2 : Nat) : Int)]).map tI := by rw [List.map_map]; rfl
      refine ⟨_, _, rfl, congrArg D.lst hm, fun ns hns => ?_, fun iss' hp => ?_⟩
      · obtain ⟨x, _, e⟩ := List.mem_map.mp hns
        subst e
        simp
      · obtain ⟨F', p, e⟩ := perm_map_inv hp
        subst e
        refine ⟨_, _, rfl, rfl, m, ?_, ?_⟩
        · intro p' c hp'
          have n1 : p' ≠ fd := fun e => by rw [e, hfd] at hp'; cases hp'
          have n2 : p' ≠ wt := fun e => by rw [e, hwt0] at hp'; cases hp'
          rw [delM_ne n1]
          show updM (updM m fd _) wt _ p' = _
          rw [updM_ne n2, updM_ne n1]
          exact hp'
        · rw [List.map_map]
          exact h F' (fin.perm p)
end
end MW

end
section
set_option Elab.async false
set_option linter.all false
set_option maxRecDepth 100000
set_option pp.maxSteps 400
/-! MwJ: games/totals: total_or_endless. -/
namespace MW
open PySem PySem.Spec PyProof.Rows L2
def endsL (G : Game) (t : Nat → Option Nat) : List Nat := (List.range G.length).filter fun i => (t i).isNone
def mostL (G : Game) (t : Nat → Option Nat) : List (Nat × Nat) := (List.range G.length).filterMap fun i => (t i).map fun k => (i, k)
abbrev p2 (x : Nat × Nat) : D := .tup [nD x.1, nD x.2]
theorem ends_mem {G : Game} {t : Nat → Option Nat} {x : Nat} : x ∈ endsL G t ↔ x < G.length ∧ t x = none := by
  unfold endsL
  rw [List.mem_filter, List.mem_range, Option.isNone_iff_eq_none]
theorem some_level {G : Game} (ok : G.Ok) {t : Nat → Option Nat} (ht : IsTot G t) {i : Nat} (hi : i < G.length) (um : metP G i = false) : ∀ l : List Ask, (∀ ask ∈ l, ask ∈ G.getD i []) → (∀ ask ∈ l, ∃ a ∈ ask, t a.2 ≠ none) →
    ∃ K, ∀ ask ∈ l, ∃ a ∈ ask, 1 ≤ a.1 ∧ a.1 ≤ K ∧ lev G (K - a.1) a.2 = true
  | [], _, _ => ⟨0, fun ask h => absurd h (by simp)⟩
  | ask :: l, hs, hn => by
    obtain ⟨K, hK⟩ := some_level ok ht hi um l (fun x hx => hs x (List.mem_cons_of_mem _ hx)) fun x hx => hn x (List.mem_cons_of_mem _ hx)
    obtain ⟨a, ha, hne⟩ := hn ask (List.mem_cons_self ..)
    have hm := getD_mem hi
    have hth : ∀ ask ∈ G.getD i [], ∀ a ∈ ask, a.2 < G.length := ok.there _ hm
    have ham := hs ask (List.mem_cons_self ..)
    cases e : t a.2 with
    | none => exact absurd e hne
    | some k =>
      have hl := (ht.least _ (hth ask ham a ha) k e).1
      have p1 := ok.pos hi um ask ham a ha
      refine ⟨K + (k + a.1), fun x hx => ?_⟩
      rcases List.mem_cons.mp hx with z | hx
      · subst z
        exact ⟨a, ha, p1, by omega, lev_mono ok (by omega) (hth _ ham a ha) hl⟩
      · obtain ⟨b, hb, b1, b2, b3⟩ := hK x hx
        exact ⟨b, hb, b1, by omega, lev_mono ok (by omega) (hth x (hs x (List.mem_cons_of_mem _ hx)) b hb) b3⟩
theorem ends_good {G : Game} (ok : G.Ok) {t : Nat → Option Nat} (ht : IsTot G t) : ∀ x ∈ endsL G t, x < G.length ∧ metP G x = false ∧ ∃ j, goodAsk (endsL G t) (G.getD x []) j := fun x hx => by
  obtain ⟨h1, h2⟩ := ends_mem.mp hx
  have no := ht.none x h1 h2
  have um : metP G x = false := Bool.eq_false_iff.mpr fun z => by
    have := no 0
    rw [lev_zero ok h1, z] at this
    cases this
  refine ⟨h1, um, Classical.byContradiction fun z => ?_⟩
  obtain ⟨K, hK⟩ := some_level ok ht h1 um (G.getD x []) (fun _ h => h) fun ask ha => Classical.byContradiction fun z2 => z (by
    obtain ⟨j, hj⟩ := List.mem_iff_getElem?.mp ha
    exact ⟨j, ask, hj, fun a haa => ends_mem.mpr ⟨ok.there _ (getD_mem h1) ask ha a haa, Classical.byContradiction fun z3 => z2 ⟨a, haa, z3⟩⟩⟩)
  have := (lev_iff ok h1 (k := K)).mpr (.inr hK)
  rw [no K] at this
  cases this
section
variable {P : Program} {w : World} {K : PySem.W.Frag} {mg : Str → Option Value} {base : Heap}
abbrev st_total_or_endless : Stmt := topS 58
theorem sc_total_or_endless : FnScope ["game", "found", "most", "at", "total"] ["game"] (defScope st_total_or_endless) := ⟨rfl, rfl, rfl, by decide +kernel, rfl, by decide +kernel, by decide +kernel⟩
def sp_total_or_endless : DSp := fun ds m Kd => ds.length = 1 ∧ ∃ G, Game.Ok G ∧ G.length * dear G ≤ 120 ∧ ds = [gameD G] ∧ ∀ t, IsTot G t →
  (t 0 = none → ∀ F : List (Nat × Nat), (F.map (·.1)).Perm (endsL G t) → (∀ x ∈ F, goodAsk (endsL G t) (G.getD x.1 []) x.2) → Kd (.tup [.str "endless", .tup (F.map e3)]) m) ∧
  (∀ T, t 0 = some T → T ≤ 4000 → ∀ R, LstOk G T R → Kd (.tup [.str "total", .tup ((mostL G t).map p2), .tup (R.map r4)]) m)
theorem ok_total_or_endless {f : Addr} {fd : FuncData} (F : Fun K "total_or_endless" "total_or_endless" st_total_or_endless f fd) (T : Txt mg) (G_need_game : Fd P w K mg base 6 "need_game" ["thing"] sp_need_game) (G_need_narrow : Fd P w K mg base 2 "need_narrow" ["game"] sp_need_narrow) (G_totals_of : Fd P w K mg base 3 "totals_of" ["game"] sp_totals_of) (G_least_rows : Fd P w K mg base 2 "least_rows" ["game", "rows", "total"] sp_least_rows) (G_endless_rows : Fd P w K mg base 2 "endless_rows" ["game", "ends"] sp_endless_rows) (G_rows_to : Fd P w K mg base 3 "rows_to" ["game", "total"] sp_rows_to) : FnOk P w K mg base CX0 7 f fd ["game"] (spD K sp_total_or_endless) := by
  refine fn_d F sc_total_or_endless (fun _ _ _ h => h.1) fun cdv A outer s H E hr => ⟨_, (qss_cons (qs_expr (q_fd G_need_game (hr.mono (by decide)) (by rfl) (qa_cons (qv 0) qa_nil)))
 (qss_cons (qs_expr (q_fd G_need_narrow (hr.mono (by decide)) (by rfl) (qa_cons (qv 0) qa_nil)))
 (qss_cons (qs_set (i := 1) sc_total_or_endless.nd rfl (by first | exact .inl rfl | exact .inr rfl) (q_fd G_totals_of (hr.mono (by decide)) (by rfl) (qa_cons (qv 0) qa_nil)))
 (qss_cons (qs_if (qt_cmp op_isN liftIsN (q_ix (qv 1) q_int) q_non (nomark _))
 (qss_one (qs_ret (q_tup (qa_cons q_str (qa_cons (q_fd G_endless_rows (hr.mono (by decide)) (by rfl) (qa_cons (qv 0) (qa_cons (q_lc (own := [("at", 3), ("total", 4)]) rfl sc_total_or_endless.nd (qi_enum (by rfl) T.enum (qa_cons (qv 1) qa_nil)) (blkOk_by (by kernel_rfl)) (fun _ _ _ _ _ => (qg_tup (n := 2) rfl (qgs_cons (qg_name (i := 3) sc_total_or_endless.nd rfl (by first | exact .inl rfl | exact .inr rfl)) (qgs_cons (qg_name (i := 4) sc_total_or_endless.nd rfl (by first | exact .inl rfl | exact .inr rfl)) qgs_nil)))) (fun _ _ _ _ _ => (qts_one (qt_cmp op_isN liftIsN (qv 4) q_non (nomark _)))) (fun _ _ _ _ _ => (qv 3))) qa_nil))) qa_nil)))))
 qss_nil)
 (qss_cons (qs_set (i := 2) sc_total_or_endless.nd rfl (by first | exact .inl rfl | exact .inr rfl) (q_callTy call_tuple_of liftTup (by rfl) T.tup (by decide +kernel) (qa_cons (q_lc (own := [("at", 3), ("total", 4)]) rfl sc_total_or_endless.nd (qi_enum (by rfl) T.enum (qa_cons (qv 1) qa_nil)) (blkOk_by (by kernel_rfl)) (fun _ _ _ _ _ => (qg_tup (n := 2) rfl (qgs_cons (qg_name (i := 3) sc_total_or_endless.nd rfl (by first | exact .inl rfl | exact .inr rfl)) (qgs_cons (qg_name (i := 4) sc_total_or_endless.nd rfl (by first | exact .inl rfl | exact .inr rfl)) qgs_nil)))) (fun _ _ _ _ _ => (qts_one (qt_cmp op_notN liftNotN (qv 4) q_non (nomark _)))) (fun _ _ _ _ _ => (q_tup (qa_cons (qv 3) (qa_cons (qv 4) qa_nil))))) qa_nil)))
 (qss_one (qs_ret (q_tup (qa_cons q_str (qa_cons (qv 2) (qa_cons (q_fd G_least_rows (hr.mono (by decide)) (by rfl) (qa_cons (qv 0) (qa_cons (q_fd G_rows_to (hr.mono (by decide)) (by rfl) (qa_cons (qv 0) (qa_cons (q_ix (qv 1) q_int) qa_nil))) (qa_cons (q_ix (qv 1) q_int) qa_nil)))) qa_nil))))))))))), fun ds m Kd h => ?_⟩
  obtain ⟨_, G, ok, nar, rfl, h⟩ := h
  have g1 := ok.g1
  have g2 := ok.g2
  have z3 : 3 ≤ sizeLine := sz_of (by decide)
  have z2 : 2 ≤ sizeLine := sz_of (by decide)
  refine ⟨_, rfl, rfl, _, ⟨G, ok, rfl, rfl⟩, ?_⟩
  refine ⟨_, rfl, rfl, _, ⟨G, ok, nar, rfl, rfl⟩, ?_⟩
  refine ⟨_, rfl, rfl, G, ok, rfl, fun t ht hb => ?_⟩
  obtain ⟨h1, h2⟩ := h t ht
  have at0 : atI (rgM G.length fun i => encO (t i)) (0 : Int) = some (encO (t 0)) := at_rg (i := 0) (by omega)
  cases e : t 0 with
  | none =>
    rw [e] at at0
    refine ⟨_, rfl, _, _, _, rfl, rfl, at0, rfl, .inl ⟨rfl, _, rfl, fun _ => ?_, nofun⟩⟩
    refine ⟨_, rfl, _, rfl, _, rfl, ?_⟩
    rw [en_rg]
    refine lc_filt (ys := List.range G.length) (p := fun i => (t i).isNone) (g := nD) (szR _ (by omega)) (fun i hi m2 Q N sm hq hn => ?_) ?_
    · refine ⟨_, rfl, rfl, _, _, rfl, _, _, rfl, rfl, ?_⟩
      cases et : t i with
      | none => exact ⟨_, rfl, rfl, .inl ⟨rfl, _, rfl, fun _ => ⟨_, rfl, hq (by rw [et]; rfl)⟩, nofun⟩⟩
      | some k => exact ⟨_, rfl, rfl, .inr (.inl ⟨⟨_, rfl⟩, _, rfl, nofun, fun _ => hn (by rw [et]; rfl)⟩)⟩
    · refine ⟨rfl, G, endsL G t, ok, List.nodup_range.sublist List.filter_sublist, ?_, ends_good ok ht, rfl, fun F hF hg => ⟨z2, m, SubM.refl m, h1 e F hF hg⟩⟩
      intro z
      have : 0 ∈ endsL G t := ends_mem.mpr ⟨by omega, e⟩
      rw [z] at this
      cases this
  | some T =>
    rw [e] at at0
    have hT : T ≤ 35 * 99 := Nat.le_trans (hb 0 (by omega) T e) (Nat.mul_le_mul (by omega) (dear_le ok.price))
    obtain ⟨l1, l2⟩ := ht.least 0 (by omega) T e
    refine ⟨_, rfl, _, _, _, rfl, rfl, at0, rfl, .inr (.inl ⟨⟨_, rfl⟩, _, rfl, nofun, fun _ => ?_⟩)⟩
    refine ⟨_, rfl, _, rfl, ?_⟩
    rw [en_rg]
    refine lc_pure (ys := List.range G.length) (f := fun i => (t i).map fun k => p2 (i, k)) (szR _ (by omega)) (fun i hi m2 Q sm hq => ?_) ?_
    · refine ⟨_, rfl, rfl, _, _, rfl, _, _, rfl, rfl, ?_⟩
      cases et : t i with
      | none =>
        rw [et] at hq
        exact ⟨_, rfl, rfl, .inl ⟨rfl, _, rfl, nofun, fun _ => hq⟩⟩
      | some k =>
        rw [et] at hq
        exact ⟨_, rfl, rfl, .inr (.inl ⟨⟨_, rfl⟩, _, rfl, fun _ => ⟨_, rfl, _, rfl, z2, hq⟩, nofun⟩)⟩
    · refine ⟨_, _, rfl, rfl, ?_⟩
      refine ⟨_, rfl, _, rfl, _, rfl, _, rfl, _, _, _, rfl, rfl, at0, rfl, G, T, ok, by omega, l2, rfl, fun n hn => ?_⟩
      refine ⟨_, rfl, _, _, _, rfl, rfl, at0, rfl, G, n, T, ok, by omega, hn, rfl, fun R hR => ⟨z3, m, SubM.refl m, ?_⟩⟩
      have em : ((List.range G.length).filterMap fun i => (t i).map fun k => p2 (i, k)) = (mostL G t).map p2 := by
        unfold mostL
        rw [List.map_filterMap]
        congr 1
        funext i
        cases t i <;> rfl
      rw [em]
      exact h2 T e (by omega) R hR
end
end MW

end
section
set_option Elab.async false
set_option linter.all false
set_option maxRecDepth 100000
set_option pp.maxSteps 400
/-! MwK: the law's drawing: pot, take, room, saying, price, prices. -/
namespace MW
open PySem PySem.Spec PyProof.Rows L2
abbrev potD (a b : Int) (c : Nat) : D := .lst [.int a, .int b, .int (c : Nat)]
/-- the pot at p, at most c times drawn from -/
def Pot (m : Mem) (p : Addr) (c : Nat) : Prop := ∃ (a b : Int) (c' : Nat), m p = some (potD a b c') ∧ 0 ≤ a ∧ 0 ≤ b ∧ b < 2 ^ 61 ∧ c' ≤ c
structure PotS (m m' : Mem) (p : Addr) (c : Nat) : Prop where
  pot : Pot m' p c
  oth : ∀ q, q ≠ p → m' q = m q
theorem Pot.mono {m : Mem} {p : Addr} {c c' : Nat} (h : Pot m p c) (k : c ≤ c') : Pot m p c' := by
  obtain ⟨a, b, d, h1, h2, h3, h4, h5⟩ := h
  exact ⟨a, b, d, h1, h2, h3, h4, by omega⟩
theorem PotS.mono {m m' : Mem} {p : Addr} {c c' : Nat} (h : PotS m m' p c) (k : c ≤ c') : PotS m m' p c' := ⟨h.pot.mono k, h.oth⟩
theorem PotS.trans {m m1 m2 : Mem} {p : Addr} {c c' : Nat} (h : PotS m m1 p c) (k : PotS m1 m2 p c') : PotS m m2 p c' := ⟨k.pot, fun q hq => (k.oth q hq).trans (h.oth q hq)⟩
theorem Pot.refl {m : Mem} {p : Addr} {c : Nat} (h : Pot m p c) : PotS m m p c := ⟨h, fun _ _ => rfl⟩
theorem potS_upd {m : Mem} {p : Addr} {a b : Int} {c' c : Nat} (h1 : 0 ≤ a) (h2 : 0 ≤ b) (h3 : b < 2 ^ 61) (h4 : c' ≤ c) : PotS m (updM m p (potD a b c')) p c := ⟨⟨a, b, c', updM_same, h1, h2, h3, h4⟩, fun q hq => updM_ne hq⟩
/-- a comprehension whose turns draw -/
theorem lc_pot {α : Type} {ys : List α} {enc : α → D} {Rl : α → D → Prop} {vs : List Nat} {G : TDG} {te : TD} {δ : Sl} {m1 : Mem} {Kd : D → Mem → Prop} {p : Addr} {c k : Nat} (hsz : ys.length ≤ sizeLine) (hpot : Pot m1 p c)
    (turn : ∀ y ∈ ys, ∀ (m : Mem) (c' : Nat) (Q : D → Mem → Prop) (N : Mem → Prop), c' ≤ c + ys.length * k → Pot m p c' → (∀ d m', Rl y d → PotS m m' p (c' + k) → Q d m') → G (enc y) (wipeD δ vs) m fun δ' m' => tYs δ' m' fun b m2 => (b = true → te δ' m2 fun d m3 => Q d m3) ∧ (b = false → N m2))
    (h : ∀ (acc : List (α × D)) (m' : Mem), acc.map (·.1) = ys → (∀ x ∈ acc, Rl x.1 x.2) → PotS m1 m' p (c + ys.length * k) → Kd (.lst (acc.map (·.2))) m') : LCc vs G tYs te δ Kd (ys.map enc) m1 := by
  refine ⟨by rw [List.length_map]; exact hsz, fun p0 hp0 => ?_⟩
  have np : p ≠ p0 := fun e => by
    obtain ⟨a, b, d, h1, _⟩ := hpot
    rw [e, hp0] at h1
    cases h1
  refine ⟨fun i m => ∃ (acc : List (α × D)) (m2 : Mem), acc.map (·.1) = ys.take i ∧ (∀ x ∈ acc, Rl x.1 x.2) ∧ PotS m1 m2 p (c + i * k) ∧ m = updM m2 p0 (.lst (acc.map (·.2))), ⟨[], m1, rfl, fun x hx => absurd hx (by simp), by simpa using hpot.refl, rfl⟩, fun i x m hx hm => ?_, fun m hm => ?_⟩
  · obtain ⟨acc, m2, ha, hr, hp, hm⟩ := hm
    subst hm
    rw [List.getElem?_map] at hx
    cases e : ys[i]? with
    | none => rw [e] at hx; cases hx
    | some y =>
      rw [e] at hx
      have ex := Option.some.inj hx
      subst ex
      have hi : i < ys.length := (List.getElem?_eq_some_iff.mp e).1
      have hp0' : m2 p0 = none := by rw [hp.oth p0 (Ne.symm np)]; exact hp0
      have hpm : Pot (updM m2 p0 (.lst (acc.map (·.2)))) p (c + i * k) := by
        obtain ⟨a, b, d, h1, h2⟩ := hp.pot
        exact ⟨a, b, d, by rw [updM_ne np]; exact h1, h2⟩
      refine turn y (List.mem_of_getElem? e) _ (c + i * k) (fun d m3 => ∃ a, m3 p0 = some (.lst a) ∧ a.length < sizeLine ∧ ∃ (acc' : List (α × D)) (m4 : Mem), acc'.map (·.1) = ys.take (i + 1) ∧ (∀ x ∈ acc', Rl x.1 x.2) ∧ PotS m1 m4 p (c + (i + 1) * k) ∧ updM m3 p0 (.lst (a ++ [d])) = updM m4 p0 (.lst (acc'.map (·.2)))) (fun m3 => ∃ (acc' : List (α × D)) (m4 : Mem), acc'.map (·.1) = ys.take (i + 1) ∧ (∀ x ∈ acc', Rl x.1 x.2) ∧ PotS m1 m4 p (c + (i + 1) * k) ∧ m3 = updM m4 p0 (.lst (acc'.map (·.2)))) (Nat.add_le_add_left (Nat.mul_le_mul_right k (Nat.le_of_lt hi)) c) hpm fun d m3 hd hs => ?_
      have hl : acc.length = (ys.take i).length := by rw [← ha, List.length_map]
      refine ⟨acc.map (·.2), by rw [hs.oth p0 (Ne.symm np), updM_same], by rw [List.length_map, hl, List.length_take]; omega, acc ++ [(y, d)], delM m3 p0, by rw [List.map_append, ha, take_succ e]; rfl, fun x hx => ?_, ⟨?_, fun q hq => ?_⟩, ?_⟩
      · rcases List.mem_append.mp hx with hx | hx
        · exact hr x hx
        · rw [List.mem_singleton.mp hx]; exact hd
      · obtain ⟨a, b, d', h1, h2, h3, h4, h5⟩ := hs.pot
        exact ⟨a, b, d', by rw [delM_ne np]; exact h1, h2, h3, h4, by rw [Nat.succ_mul]; omega⟩
      · by_cases e2 : q = p0
        · subst e2; rw [delM_same, hp0]
        · rw [delM_ne e2, hs.oth q hq, updM_ne e2, hp.oth q hq]
      · rw [List.map_append]
        funext q
        by_cases e2 : q = p0
        · subst e2; rw [updM_same, updM_same]; rfl
        · rw [updM_ne e2, updM_ne e2, delM_ne e2]
  · rw [List.length_map] at hm
    obtain ⟨acc, m2, ha, hr, hp, hm⟩ := hm
    rw [List.take_length] at ha
    subst hm
    refine ⟨_, updM_same, ?_⟩
    rw [delM_updM (by rw [hp.oth p0 (Ne.symm np)]; exact hp0)]
    exact h acc m2 ha hr hp
/-- values told by a relation as a function -/
theorem pick {β : Type} {enc : β → D} {P : Nat → β → Prop} (dflt : Nat → β) (hd : ∀ i, P i (dflt i)) : ∀ {n : Nat} {acc : List (Nat × D)}, acc.map (·.1) = List.range n → (∀ x ∈ acc, ∃ v, x.2 = enc v ∧ P x.1 v) → ∃ f : Nat → β, acc.map (·.2) = rgM n (fun i => enc (f i)) ∧ ∀ i, P i (f i) := by
  intro n
  induction n with
  | zero =>
    intro acc h _
    have : acc = [] := List.map_eq_nil_iff.mp h
    subst this
    exact ⟨dflt, rfl, hd⟩
  | succ n ih =>
    intro acc h hr
    have hne : acc ≠ [] := fun z => by rw [z, List.range_succ] at h; simp at h
    obtain ⟨l, x, e⟩ : ∃ l x, acc = l ++ [x] := ⟨acc.dropLast, acc.getLast hne, (List.dropLast_concat_getLast hne).symm⟩
    subst e
    rw [List.map_append, List.range_succ] at h
    have h2 := List.append_inj' h rfl
    obtain ⟨f, h3, h4⟩ := ih h2.1 fun y hy => hr y (List.mem_append_left _ hy)
    have hx : x.1 = n := by simpa using h2.2
    obtain ⟨v, hv, hp⟩ := hr x (List.mem_append_right _ (List.mem_singleton.mpr rfl))
    refine ⟨fun i => if i = n then v else f i, ?_, fun i => ?_⟩
    · unfold rgM at h3 ⊢
      rw [List.map_append, h3, List.range_succ, List.map_append]
      congr 1
      · refine List.map_congr_left fun i hi => ?_
        have := List.mem_range.mp hi
        show enc (f i) = enc (if i = n then v else f i)
        rw [if_neg (by omega)]
      · simp [hv]
    · show P i (if i = n then v else f i)
      split
      · rename_i e
        rw [e, ← hx]; exact hp
      · exact h4 i
section
variable {P : Program} {w : World} {K : PySem.W.Frag} {mg : Str → Option Value} {base : Heap}
abbrev st__law_pot : Stmt := topS 60
theorem sc__law_pot : FnScope ["script", "k", "cell"] ["script", "k"] (defScope st__law_pot) := ⟨rfl, rfl, rfl, by decide +kernel, rfl, by decide +kernel, by decide +kernel⟩
def sp__law_pot : DSp := fun ds m Kd => ds.length = 2 ∧ ∃ (S : D) (ns : List Int) (k : Nat), ds = [S, nD k] ∧ look m S = .lst (ns.map D.int) ∧ k ≤ 63 ∧ ∀ p, m p = none → ∀ a b : Int, 0 ≤ a → 0 ≤ b → b < 2 ^ 61 → Kd (.ref p) (updM m p (potD a b 0))
theorem ok__law_pot {f : Addr} {fd : FuncData} (F : Fun K "_law_pot" "_law_pot" st__law_pot f fd) (T : Txt mg)  : FnOk P w K mg base CX0 1 f fd ["script", "k"] (spD K sp__law_pot) := by
  refine fn_d F sc__law_pot (fun _ _ _ h => h.1) fun cdv A outer s H E hr => ⟨_, (qss_cons (qs_set (i := 2) sc__law_pot.nd rfl (by first | exact .inl rfl | exact .inr rfl) q_int)
 (qss_cons (qs_if (qt_cmp op_lt liftB0 (qv 1) (q_callB call_lenA liftLen (by rfl) T.len (by decide +kernel) (qa_cons (qv 0) qa_nil)) (nomark _))
 (qss_one (qs_set (i := 2) sc__law_pot.nd rfl (by first | exact .inl rfl | exact .inr rfl) (q_op op_mod liftI (q_callB call_abs liftAbs (by rfl) T.abs (by decide +kernel) (qa_cons (q_ix (qv 0) (qv 1)) qa_nil)) (q_op op_powW liftI (q_op op_pow liftI q_int q_int) q_int))))
 qss_nil)
 (qss_one (qs_ret (q_lstc (qa_cons (q_op op_mul liftI (qv 2) (q_callTy call_int1 liftIntB (by rfl) T.int (by decide +kernel) (qa_cons (q_cmp op_ge liftB0 (qv 2) (q_op op_pow liftI q_int q_int) (nomark _)) qa_nil))) (qa_cons (q_op op_mod liftI (q_op op_pow liftI (q_op op_add liftI0 (q_op op_add liftI0 (q_op op_mod liftI (qv 2) q_int) (q_op op_mul liftI q_int (qv 1))) q_int) q_int) q_int) (qa_cons q_int qa_nil)))))))), fun ds m Kd h => ?_⟩
  obtain ⟨_, S, ns, k, rfl, hS, hk, h⟩ := h
  have ll : lenD (look m S) = some ns.length := by rw [hS]; show some (List.length _) = _; rw [List.length_map]
  have fin : ∀ cell : Int, 0 ≤ cell → tRt (tLc_ (tAC (tO (dI CMul fun i j => .int (i * j)) (tV 2) (tCb cIntB (tAC (tO (dI0 fun i j => .bl (decide (i ≥ j))) (tV 2) (tO (dI CPow fun i j => .int (i ^ j.toNat)) (tCo (.int 10)) (tCo (.int 18)))) tAN))) (tAC (tO (dI (fun _ j => 0 < j) fun i j => .int (i % j)) (tO (dI CPow fun i j => .int (i ^ j.toNat)) (tO (dI0 fun i j => .int (i + j)) (tO (dI0 fun i j => .int (i + j)) (tO (dI (fun _ j => 0 < j) fun i j => .int (i % j)) (tV 2) (tCo (.int 2147483629))) (tO (dI CMul fun i j => .int (i * j)) (tCo (.int 7919)) (tV 1))) (tCo (.int 1))) (tCo (.int 5))) (tCo (.int 2305843009213693951))) (tAC (tCo (.int 0)) tAN)))) (endD Kd) [some S, some (nD k), some (.int cell)] m := fun cell h0 => by
    refine ⟨_, rfl, _, rfl, _, _, rfl, rfl, ⟨by decide, by decide, by decide⟩, _, _, rfl, rfl, _, rfl, _, _, rfl, rfl, .inr ?_, _, rfl, _, _, rfl, rfl, (show (0 : Int) < 2147483629 by decide), _, rfl, _, _, rfl, rfl, .inl ⟨by decide, by decide⟩, _, _, rfl, rfl, _, _, rfl, rfl, _, _, rfl, rfl, ⟨by decide, by decide, ?_⟩, _, _, rfl, rfl, (show (0 : Int) < 2305843009213693951 by decide), sz_of (by decide : 3 ≤ 1000), fun p hp => ⟨_, SubM.refl _, h p hp _ _ ?_ ?_ ?_⟩⟩
    · split <;> exact ⟨by decide, by decide⟩
    · have := Int.emod_nonneg cell (show (2147483629 : Int) ≠ 0 by decide)
      have := Int.emod_lt_of_pos cell (show (0 : Int) < 2147483629 by decide)
      omega
    · split
      · rw [Int.mul_one]; exact h0
      · rw [Int.mul_zero]; exact Int.le_refl _
    · exact Int.emod_nonneg _ (by decide)
    · exact Int.lt_trans (Int.emod_lt_of_pos _ (show (0 : Int) < 2305843009213693951 by decide)) (by decide)
  refine ⟨_, rfl, _, rfl, _, _, rfl, ll, _, _, rfl, rfl, _, rfl, fun e => ?_, fun e => ?_⟩
  · have e := of_decide_eq_true e
    have hkl : k < ns.length := by omega
    have at1 : atI (ns.map D.int) ((k : Nat) : Int) = some (.int ns[k]) := atI_nat (by rw [List.getElem?_map, List.getElem?_eq_getElem hkl]; rfl)
    refine ⟨_, rfl, _, rfl, _, _, _, by rw [hS]; rfl, rfl, at1, _, rfl, _, _, rfl, rfl, ⟨by decide, by decide, by decide⟩, _, _, rfl, rfl, ⟨by decide, by decide +kernel⟩, _, _, rfl, rfl, (show (0 : Int) < ((10 : Int) ^ Int.toNat 60) ^ Int.toNat 10 by decide +kernel), ?_⟩
    exact fin _ (Int.emod_nonneg _ (by decide +kernel))
  · exact fin 0 (Int.le_refl _)
abbrev st__law_take : Stmt := topS 61
theorem sc__law_take : FnScope ["pot", "many", "found", "one", "other"] ["pot", "many"] (defScope st__law_take) := ⟨rfl, rfl, rfl, by decide +kernel, rfl, by decide +kernel, by decide +kernel⟩
def sp__law_take : DSp := fun ds m Kd => ds.length = 2 ∧ ∃ p many c, ds = [.ref p, nD many] ∧ 1 ≤ many ∧ many ≤ 1000 ∧ c ≤ 1000000000 ∧ Pot m p c ∧ ∀ r m', r < many → PotS m m' p (c + 1) → Kd (nD r) m'
theorem ok__law_take {f : Addr} {fd : FuncData} (F : Fun K "_law_take" "_law_take" st__law_take f fd) (T : Txt mg)  : FnOk P w K mg base CX0 1 f fd ["pot", "many"] (spD K sp__law_take) := by
  refine fn_d F sc__law_take (fun _ _ _ h => h.1) fun cdv A outer s H E hr => ⟨_, (qss_cons (qs_if (qt_cmp op_gt liftB0 (q_ix (qv 0) q_int) q_int (nomark _))
 (qss_cons (qs_set (i := 2) sc__law_take.nd rfl (by first | exact .inl rfl | exact .inr rfl) (q_op op_mod liftI (q_ix (qv 0) q_int) (qv 1)))
 (qss_cons (qs_lput (qv 0) q_int (q_op op_fdiv liftI (q_ix (qv 0) q_int) (qv 1)))
 (qss_one (qs_ret (qv 2)))))
 qss_nil)
 (qss_cons (qs_lput (qv 0) q_int (q_op op_add liftI0 (q_ix (qv 0) q_int) q_int))
 (qss_cons (qs_set (i := 3) sc__law_take.nd rfl (by first | exact .inl rfl | exact .inr rfl) (q_op op_mod liftI (q_op op_pow liftI (q_op op_add liftI0 (q_ix (qv 0) q_int) (q_op op_mul liftI q_int (q_ix (qv 0) q_int))) q_int) q_int))
 (qss_cons (qs_set (i := 4) sc__law_take.nd rfl (by first | exact .inl rfl | exact .inr rfl) (q_op op_mod liftI (q_op op_pow liftI (q_op op_add liftI0 (q_op op_add liftI0 (qv 3) (q_op op_mod liftI (q_ix (qv 0) q_int) q_int)) (q_op op_mul liftI q_int (q_ix (qv 0) q_int))) q_int) q_int))
 (qss_one (qs_ret (q_op op_mod liftI (q_op op_fdiv liftI (qv 4) q_int) (qv 1)))))))), fun ds m Kd h => ?_⟩
  obtain ⟨_, p, many, c, rfl, h1, h2, hc, ⟨a, b, c', hp, ha, hb, hb2, hc'⟩, h⟩ := h
  have lk : look m (.ref p) = potD a b c' := by
    show (m p).getD _ = _
    rw [hp]
    rfl
  have mp : (0 : Int) < (many : Nat) := by omega
  refine ⟨_, rfl, _, _, .int a, by rw [lk]; rfl, rfl, rfl, _, _, rfl, rfl, _, rfl, fun e => ?_, fun e => ?_⟩
  · refine ⟨_, rfl, _, _, .int a, by rw [lk]; rfl, rfl, rfl, _, rfl, _, _, rfl, rfl, mp, ?_⟩
    refine ⟨_, rfl, _, _, .int a, by rw [lk]; rfl, rfl, rfl, _, rfl, _, _, rfl, rfl, ⟨mp, by show ((many : Nat) : Int) < 1073741824; omega⟩, _, rfl, p, _, 0, 0, rfl, rfl, hp, rfl, ?_⟩
    have h0 := Int.emod_nonneg a (show ((many : Nat) : Int) ≠ 0 by omega)
    have h1 := Int.emod_lt_of_pos a mp
    have e2 : D.int (a % (many : Nat)) = nD (a % (many : Nat)).toNat := by rw [nD, Int.toNat_of_nonneg h0]
    have hs : PotS m (updM m p (potD (a / (many : Nat)) b c')) p (c + 1) := potS_upd (Int.ediv_nonneg ha (by omega)) hb hb2 (by omega)
    have hh := h (a % (many : Nat)).toNat _ (by omega) hs
    rw [← e2] at hh
    exact ⟨_, rfl, _, SubM.refl _, hh⟩
  · refine ⟨_, rfl, _, _, .int (c' : Nat), by rw [lk]; rfl, rfl, rfl, _, _, rfl, rfl, _, rfl, p, _, 2, 2, rfl, rfl, hp, rfl, ?_⟩
    have lk2 : look (updM m p (.lst [.int a, .int b, .int ((c' : Nat) + 1)])) (.ref p) = .lst [.int a, .int b, .int ((c' : Nat) + 1)] := by
      show (updM m p _ p).getD _ = _
      rw [updM_same]
      rfl
    refine ⟨_, rfl, _, _, .int b, by exact congrArg seqD lk2, rfl, rfl, _, rfl, _, _, .int ((c' : Nat) + 1), by exact congrArg seqD lk2, rfl, rfl, _, _, rfl, rfl, .inl ⟨by decide, by decide⟩, _, _, rfl, rfl, _, _, rfl, rfl, ⟨by decide, by decide, ?_⟩, _, _, rfl, rfl, (show (0 : Int) < 2305843009213693921 by decide), ?_⟩
    · omega
    have o1 := Int.emod_nonneg ((b + 104729 * ((c' : Nat) + 1)) ^ Int.toNat 3) (show (2305843009213693921 : Int) ≠ 0 by decide)
    have o2 := Int.emod_lt_of_pos ((b + 104729 * ((c' : Nat) + 1)) ^ Int.toNat 3) (show (0 : Int) < 2305843009213693921 by decide)
    refine ⟨_, rfl, _, rfl, _, _, .int b, by exact congrArg seqD lk2, rfl, rfl, _, _, rfl, rfl, (show (0 : Int) < 65537 by decide), _, _, rfl, rfl, _, rfl, _, _, .int ((c' : Nat) + 1), by exact congrArg seqD lk2, rfl, rfl, _, _, rfl, rfl, .inl ⟨by decide, by decide⟩, _, _, rfl, rfl, _, _, rfl, rfl, ⟨by decide, by decide, ?_⟩, _, _, rfl, rfl, (show (0 : Int) < 2305843009213693907 by decide), ?_⟩
    · have := Int.emod_nonneg b (show (65537 : Int) ≠ 0 by decide)
      have := Int.emod_lt_of_pos b (show (0 : Int) < 65537 by decide)
      show (((b + 104729 * ((c' : Nat) + 1)) ^ Int.toNat 3) % 2305843009213693921 + b % 65537 + 31 * ((c' : Nat) + 1)).natAbs < 2 ^ 64
      generalize ((b + 104729 * ((c' : Nat) + 1)) ^ Int.toNat 3) % 2305843009213693921 = one at o1 o2 ⊢
      omega
    have key : ∀ other : Int, Kd (.int (other / 1024 % (many : Nat))) (updM m p (potD a b (c' + 1))) := fun other => by
      have h0 := Int.emod_nonneg (other / 1024) (show ((many : Nat) : Int) ≠ 0 by omega)
      have h1 := Int.emod_lt_of_pos (other / 1024) mp
      have e2 : D.int (other / 1024 % (many : Nat)) = nD (other / 1024 % (many : Nat)).toNat := by rw [nD, Int.toNat_of_nonneg h0]
      have hs : PotS m (updM m p (potD a b (c' + 1))) p (c + 1) := potS_upd ha hb hb2 (by omega)
      have hh := h (other / 1024 % (many : Nat)).toNat _ (by omega) hs
      rw [← e2] at hh
      exact hh
    exact ⟨_, rfl, _, _, rfl, rfl, ⟨by decide, by decide⟩, _, rfl, _, _, rfl, rfl, mp, _, SubM.refl _, key _⟩
end
end MW

end
section
set_option Elab.async false
set_option linter.all false
set_option maxRecDepth 100000
set_option pp.maxSteps 400
/-! MwM: the law's drawing: room, saying, price, prices. -/
namespace MW
open PySem PySem.Spec PyProof.Rows L2
section
variable {P : Program} {w : World} {K : PySem.W.Frag} {mg : Str → Option Value} {base : Heap}
abbrev st__law_room : Stmt := topS 63
theorem sc__law_room : FnScope ["pot", "rooms", "rate"] ["pot", "rooms", "rate"] (defScope st__law_room) := ⟨rfl, rfl, rfl, by decide +kernel, rfl, by decide +kernel, by decide +kernel⟩
def sp__law_room : DSp := fun ds m Kd => ds.length = 3 ∧ ∃ p rooms rate c, ds = [.ref p, nD rooms, nD rate] ∧ 1 ≤ rooms ∧ rooms ≤ 6 ∧ 1 ≤ rate ∧ rate ≤ 1000 ∧ c ≤ 900000000 ∧ Pot m p c ∧ ∀ (o : Option Nat) m', (∀ t, o = some t → t < rooms) → PotS m m' p (c + 2) → Kd (encO o) m'
theorem ok__law_room {f : Addr} {fd : FuncData} (F : Fun K "_law_room" "_law_room" st__law_room f fd) (T : Txt mg) (G__law_take : Fd P w K mg base 1 "_law_take" ["pot", "many"] sp__law_take) : FnOk P w K mg base CX0 2 f fd ["pot", "rooms", "rate"] (spD K sp__law_room) := by
  refine fn_d F sc__law_room (fun _ _ _ h => h.1) fun cdv A outer s H E hr => ⟨_, (qss_cons (qs_if (qt_cmp (op_eqD hr.units) liftEq (q_fd G__law_take (hr.mono (by decide)) (by rfl) (qa_cons (qv 0) (qa_cons (qv 2) qa_nil))) q_int (nomark _))
 (qss_one (qs_ret q_non))
 qss_nil)
 (qss_one (qs_ret (q_fd G__law_take (hr.mono (by decide)) (by rfl) (qa_cons (qv 0) (qa_cons (qv 1) qa_nil)))))), fun ds m Kd h => ?_⟩
  obtain ⟨_, p, rooms, rate, c, rfl, h1, h2, h3, h4, hc, hp, h⟩ := h
  refine ⟨_, rfl, _, rfl, rfl, p, rate, c, rfl, h3, h4, by omega, hp, fun r m1 hr1 hs => ⟨rfl, rfl, _, rfl, fun e => ?_, fun e => ?_⟩⟩
  · exact ⟨_, SubM.refl _, h none m1 nofun (hs.mono (by omega))⟩
  · exact ⟨_, rfl, _, rfl, rfl, p, rooms, c + 1, rfl, h1, by omega, by omega, hs.pot, fun r2 m2 hr2 hs2 => ⟨_, SubM.refl _, h (some r2) m2 (fun t ht => by rw [← Option.some.inj ht]; exact hr2) (hs.trans hs2)⟩⟩

abbrev st__law_saying : Stmt := topS 64
theorem sc__law_saying : FnScope ["pot", "signs", "deeds", "rooms", "rate", "table", "room", "s", "d"] ["pot", "signs", "deeds", "rooms", "rate"] (defScope st__law_saying) := ⟨rfl, rfl, rfl, by decide +kernel, rfl, by decide +kernel, by decide +kernel⟩
def sp__law_saying : DSp := fun ds m Kd => ds.length = 5 ∧ ∃ p signs deeds rooms rate c, ds = [.ref p, nD signs, nD deeds, nD rooms, nD rate] ∧ 1 ≤ signs ∧ signs ≤ 2 ∧ 1 ≤ deeds ∧ deeds ≤ 3 ∧ 1 ≤ rooms ∧ rooms ≤ 6 ∧ 1 ≤ rate ∧ rate ≤ 1000 ∧ c ≤ 800000000 ∧ Pot m p c ∧
  ∀ (s : Say) m', s.Ok → s.signs = signs → s.deeds = deeds → s.rooms = rooms → PotS m m' p (c + 72) → Kd s.enc m'
theorem ok__law_saying {f : Addr} {fd : FuncData} (F : Fun K "_law_saying" "_law_saying" st__law_saying f fd) (T : Txt mg) (G__law_room : Fd P w K mg base 2 "_law_room" ["pot", "rooms", "rate"] sp__law_room) : FnOk P w K mg base CX0 3 f fd ["pot", "signs", "deeds", "rooms", "rate"] (spD K sp__law_saying) := by
  refine fn_d F sc__law_saying (fun _ _ _ h => h.1) fun cdv A outer s H E hr => ⟨_, (qss_cons (qs_set (i := 5) sc__law_saying.nd rfl (by first | exact .inl rfl | exact .inr rfl) (q_lstc qa_nil))
 (qss_cons (qs_for (vs := [6]) PassesOwn.never rfl (qi_range (by rfl) T.rng (qa_cons (qv 3) qa_nil)) (qg_name (i := 6) sc__law_saying.nd rfl (by first | exact .inl rfl | exact .inr rfl))
 (qss_one (qs_expr (q_append (qv 5) (qa_cons (q_callTy call_tuple_of liftTup (by rfl) T.tup (by decide +kernel) (qa_cons (q_lc (own := [("s", 7)]) rfl sc__law_saying.nd (qi_range (by rfl) T.rng (qa_cons (qv 1) qa_nil)) (blkOk_by (by kernel_rfl)) (fun _ _ _ _ _ => (qg_name (i := 7) sc__law_saying.nd rfl (by first | exact .inl rfl | exact .inr rfl))) (fun _ _ _ _ _ => qts_nil) (fun _ _ _ _ _ => (q_callTy call_tuple_of liftTup (by rfl) T.tup (by decide +kernel) (qa_cons (q_lc (own := [("d", 8)]) rfl sc__law_saying.nd (qi_range (by rfl) T.rng (qa_cons (qv 2) qa_nil)) (blkOk_by (by kernel_rfl)) (fun _ _ _ _ _ => (qg_name (i := 8) sc__law_saying.nd rfl (by first | exact .inl rfl | exact .inr rfl))) (fun _ _ _ _ _ => qts_nil) (fun _ _ _ _ _ => (q_fd G__law_room (hr.mono (by decide)) (by rfl) (qa_cons (qv 0) (qa_cons (qv 3) (qa_cons (qv 4) qa_nil)))))) qa_nil)))) qa_nil)) qa_nil)))))
 (qss_one (qs_ret (q_tup (qa_cons (qv 1) (qa_cons (qv 2) (qa_cons (q_callTy call_tuple_of liftTup (by rfl) T.tup (by decide +kernel) (qa_cons (qv 5) qa_nil)) qa_nil)))))))), fun ds m Kd h => ?_⟩
  obtain ⟨_, p, signs, deeds, rooms, rate, c, rfl, s1, s2, d1, d2, r1, r2, t1, t2, hc, hp, h⟩ := h
  refine ⟨Nat.zero_le _, fun tb htb => ?_⟩
  have npt : p ≠ tb := fun e => by
    obtain ⟨a, b, d, h1, _⟩ := hp
    rw [e, htb] at h1
    cases h1
  refine ⟨_, rfl, _, rfl, by omega, by omega, ?_⟩
  rw [rg0, Int.toNat_natCast]
  refine for_T (fun i δ m' => ∃ (acc : List (Nat × D)) (m2 : Mem) (x6 x7 x8 : Option D), δ = [some (.ref p), some (nD signs), some (nD deeds), some (nD rooms), some (nD rate), some (.ref tb), x6, x7, x8] ∧ acc.map (·.1) = (List.range rooms).take i ∧
      (∀ x ∈ acc, ∃ f : Nat → Nat → Option Nat, x.2 = .tup (rgM signs fun g => .tup (rgM deeds fun d => encO (f g d))) ∧ ∀ g d t, f g d = some t → t < rooms) ∧ PotS m m2 p (c + i * 12) ∧ m' = updM m2 tb (.lst (acc.map (·.2)))) ⟨[], m, _, _, _, rfl, rfl, fun x hx => absurd hx (by simp), by simpa using hp.refl, rfl⟩ ?_ ?_
  · rintro i y δ m' hy ⟨acc, m2, x6, x7, x8, rfl, ha, hr, hs, rfl⟩
    obtain ⟨rfl, hi⟩ := range_get hy
    have hl : acc.length ≤ 6 := by rw [← List.length_map (f := fun x : Nat × D => x.1), ha, List.length_take, List.length_range]; omega
    have htb2 : m2 tb = none := by rw [hs.oth tb (Ne.symm npt)]; exact htb
    have hpm : Pot (updM m2 tb (.lst (acc.map (·.2)))) p (c + y * 12) := by
      obtain ⟨a, b, d, h1, h2⟩ := hs.pot
      exact ⟨a, b, d, by rw [updM_ne npt]; exact h1, h2⟩
    refine ⟨_, rfl, tb, _, rfl, updM_same, _, rfl, _, rfl, by omega, by omega, ?_⟩
    rw [rg0, Int.toNat_natCast]
    refine lc_pot (ys := List.range signs) (enc := nD) (p := p) (c := c + y * 12) (k := 6) (Rl := fun _ dd => ∃ f : Nat → Option Nat, dd = .tup (rgM deeds fun d => encO (f d)) ∧ ∀ d t, f d = some t → t < rooms) (szR _ (by omega)) hpm (fun s hs1 m3 c' Q N hc' hp3 hq => ⟨fun _ => ?_, nofun⟩) (fun acc2 m3 ha2 hr2 hs2 => ?_)
    · rw [List.length_range] at hc'
      refine ⟨_, rfl, _, rfl, by omega, by omega, ?_⟩
      rw [rg0, Int.toNat_natCast]
      refine lc_pot (ys := List.range deeds) (enc := nD) (p := p) (c := c') (k := 2) (Rl := fun _ dd => ∃ o : Option Nat, dd = encO o ∧ ∀ t, o = some t → t < rooms) (szR _ (by omega)) hp3 (fun d hd m4 c4 Q4 N4 hc4 hp4 hq4 => ⟨fun _ => ?_, nofun⟩) (fun acc4 m4 ha4 hr4 hs4 => ?_)
      · rw [List.length_range] at hc4
        exact ⟨_, rfl, _, rfl, _, rfl, rfl, p, rooms, rate, c4, rfl, r1, r2, t1, t2, by omega, hp4, fun o m5 ho hs5 => hq4 _ _ ⟨o, rfl, ho⟩ hs5⟩
      · rw [List.length_range] at hs4
        obtain ⟨f, e1, e2⟩ := pick (enc := encO) (P := fun _ o => ∀ t, o = some t → t < rooms) (fun _ => none) (fun _ => nofun) ha4 hr4
        rw [e1]
        exact ⟨_, _, rfl, rfl, hq _ _ ⟨f, rfl, e2⟩ (hs4.mono (by omega))⟩
    · rw [List.length_range] at hs2
      obtain ⟨f, e1, e2⟩ := pick (enc := fun f : Nat → Option Nat => .tup (rgM deeds fun d => encO (f d))) (P := fun _ f => ∀ d t, f d = some t → t < rooms) (fun _ _ => none) (fun _ _ => nofun) ha2 hr2
      rw [e1]
      refine ⟨_, _, rfl, rfl, _, _, rfl, by rw [hs2.oth tb (Ne.symm npt)]; exact updM_same, by rw [List.length_map, sizeLine_eq]; omega, acc ++ [(y, .tup (rgM signs fun g => .tup (rgM deeds fun d => encO (f g d))))], delM m3 tb, _, _, _, rfl, by rw [List.map_append, ha, take_succ hy]; rfl, fun x hx => ?_, ⟨?_, fun q hq => ?_⟩, ?_⟩
      · rcases List.mem_append.mp hx with hx | hx
        · exact hr x hx
        · rw [List.mem_singleton.mp hx]; exact ⟨f, rfl, e2⟩
      · obtain ⟨a, b, d', h1, h2, h3, h4, h5⟩ := hs2.pot
        exact ⟨a, b, d', by rw [delM_ne npt]; exact h1, h2, h3, h4, by omega⟩
      · by_cases e3 : q = tb
        · subst e3; rw [delM_same, htb]
        · rw [delM_ne e3, hs2.oth q hq, updM_ne e3, hs.oth q hq]
      · rw [List.map_append]
        funext q
        by_cases e3 : q = tb
        · subst e3; rw [updM_same, updM_same]; rfl
        · rw [updM_ne e3, updM_ne e3, delM_ne e3]
  · rintro δ m' ⟨acc, m2, x6, x7, x8, rfl, ha, hr, hs, rfl⟩
    rw [List.length_range] at hs ha
    have ha' : acc.map (·.1) = List.range rooms := by rw [ha]; exact List.take_of_length_le (by rw [List.length_range]; exact Nat.le_refl _)
    obtain ⟨f, e1, e2⟩ := pick (enc := fun f : Nat → Nat → Option Nat => .tup (rgM signs fun g => .tup (rgM deeds fun d => encO (f g d)))) (P := fun _ f => ∀ g d t, f g d = some t → t < rooms) (fun _ _ _ => none) (fun _ _ _ => nofun) ha' hr
    have lk : look (updM m2 tb (.lst (acc.map (·.2)))) (.ref tb) = .lst (rgM rooms fun r => .tup (rgM signs fun g => .tup (rgM deeds fun d => encO (f r g d)))) := by
      show (updM m2 tb _ tb).getD _ = _
      rw [updM_same, e1]
      rfl
    have htb2 : m2 tb = none := by rw [hs.oth tb (Ne.symm npt)]; exact htb
    refine ⟨_, rfl, _, rfl, _, rfl, _, _, rfl, lk, sz_of (by decide : 3 ≤ 1000), m2, SubM.new htb2, ?_⟩
    exact h ⟨signs, deeds, rooms, f⟩ m2 ⟨s1, s2, d1, d2, r1, r2, fun r g d t ht => e2 r g d t ht⟩ rfl rfl rfl (hs.mono (by omega))

abbrev st__law_price : Stmt := topS 65
theorem sc__law_price : FnScope ["pot", "wanted", "given", "top"] ["pot", "wanted", "given", "top"] (defScope st__law_price) := ⟨rfl, rfl, rfl, by decide +kernel, rfl, by decide +kernel, by decide +kernel⟩
def sp__law_price : DSp := fun ds m Kd => ds.length = 4 ∧ ∃ p wn gv top c, ds = [.ref p, nD wn, nD gv, nD top] ∧ 1 ≤ top ∧ top ≤ 6 ∧ c ≤ 900000000 ∧ Pot m p c ∧ ∀ (o : Option Nat) m', (wn = gv → o = some 0) → (wn ≠ gv → ∀ x, o = some x → 1 ≤ x ∧ x ≤ top) → PotS m m' p (c + 2) → Kd (encO o) m'
theorem ok__law_price {f : Addr} {fd : FuncData} (F : Fun K "_law_price" "_law_price" st__law_price f fd) (T : Txt mg) (G__law_take : Fd P w K mg base 1 "_law_take" ["pot", "many"] sp__law_take) : FnOk P w K mg base CX0 2 f fd ["pot", "wanted", "given", "top"] (spD K sp__law_price) := by
  refine fn_d F sc__law_price (fun _ _ _ h => h.1) fun cdv A outer s H E hr => ⟨_, (qss_cons (qs_if (qt_cmp (op_eqD hr.units) liftEq (qv 1) (qv 2) (nomark _))
 (qss_one (qs_ret q_int))
 qss_nil)
 (qss_cons (qs_if (qt_cmp (op_eqD hr.units) liftEq (q_fd G__law_take (hr.mono (by decide)) (by rfl) (qa_cons (qv 0) (qa_cons q_int qa_nil))) q_int (nomark _))
 (qss_one (qs_ret q_non))
 qss_nil)
 (qss_one (qs_ret (q_op op_add liftI0 q_int (q_fd G__law_take (hr.mono (by decide)) (by rfl) (qa_cons (qv 0) (qa_cons (qv 3) qa_nil)))))))), fun ds m Kd h => ?_⟩
  obtain ⟨_, p, wn, gv, top, c, rfl, h1, h2, hc, hp, h⟩ := h
  refine ⟨_, rfl, _, rfl, rfl, rfl, _, rfl, fun e => ?_, fun e => ?_⟩
  · rw [eqD_nat] at e
    have e := of_decide_eq_true e
    exact ⟨_, SubM.refl _, h (some 0) m (fun _ => rfl) (fun z => absurd e z) (hp.refl.mono (by omega))⟩
  · rw [eqD_nat] at e
    have e := of_decide_eq_false e
    refine ⟨_, rfl, rfl, p, 5, c, rfl, by decide, by decide, by omega, hp, fun r m1 hr1 hs => ⟨rfl, rfl, _, rfl, fun e2 => ?_, fun e2 => ?_⟩⟩
    · exact ⟨_, SubM.refl _, h none m1 (fun z => absurd z e) (fun _ => nofun) (hs.mono (by omega))⟩
    · refine ⟨_, rfl, _, rfl, rfl, p, top, c + 1, rfl, h1, by omega, by omega, hs.pot, fun r2 m2 hr2 hs2 => ⟨_, _, rfl, rfl, _, SubM.refl _, ?_⟩⟩
      have := h (some (1 + r2)) m2 (fun z => absurd z e) (fun _ x hx => by rw [← Option.some.inj hx]; omega) (hs.trans hs2)
      have e3 : encO (some (1 + r2)) = .int (1 + ((r2 : Nat) : Int)) := by
        show D.int ((1 + r2 : Nat) : Int) = _
        rw [Int.natCast_add]
        rfl
      rw [e3] at this
      exact this

abbrev st__law_prices : Stmt := topS 66
theorem sc__law_prices : FnScope ["pot", "deeds", "top", "d", "e"] ["pot", "deeds", "top"] (defScope st__law_prices) := ⟨rfl, rfl, rfl, by decide +kernel, rfl, by decide +kernel, by decide +kernel⟩
def sp__law_prices : DSp := fun ds m Kd => ds.length = 3 ∧ ∃ p deeds top c, ds = [.ref p, nD deeds, nD top] ∧ deeds ≤ 3 ∧ 1 ≤ top ∧ top ≤ 6 ∧ c ≤ 800000000 ∧ Pot m p c ∧ ∀ (f : Fee) m', Fee.Ok deeds f → (∀ w g x, f.cost w g = some x → x ≤ top) → PotS m m' p (c + 19) → Kd (Fee.enc deeds f) m'
theorem ok__law_prices {f : Addr} {fd : FuncData} (F : Fun K "_law_prices" "_law_prices" st__law_prices f fd) (T : Txt mg) (G__law_take : Fd P w K mg base 1 "_law_take" ["pot", "many"] sp__law_take) (G__law_price : Fd P w K mg base 2 "_law_price" ["pot", "wanted", "given", "top"] sp__law_price) : FnOk P w K mg base CX0 3 f fd ["pot", "deeds", "top"] (spD K sp__law_prices) := by
  refine fn_d F sc__law_prices (fun _ _ _ h => h.1) fun cdv A outer s H E hr => ⟨_, (qss_cons (qs_if (qt_cmp (op_eqD hr.units) liftEq (q_fd G__law_take (hr.mono (by decide)) (by rfl) (qa_cons (qv 0) (qa_cons q_int qa_nil))) q_int (nomark _))
 (qss_one (qs_ret q_non))
 qss_nil)
 (qss_one (qs_ret (q_callTy call_tuple_of liftTup (by rfl) T.tup (by decide +kernel) (qa_cons (q_lc (own := [("d", 3)]) rfl sc__law_prices.nd (qi_range (by rfl) T.rng (qa_cons (qv 1) qa_nil)) (blkOk_by (by kernel_rfl)) (fun _ _ _ _ _ => (qg_name (i := 3) sc__law_prices.nd rfl (by first | exact .inl rfl | exact .inr rfl))) (fun _ _ _ _ _ => qts_nil) (fun _ _ _ _ _ => (q_callTy call_tuple_of liftTup (by rfl) T.tup (by decide +kernel) (qa_cons (q_lc (own := [("e", 4)]) rfl sc__law_prices.nd (qi_range (by rfl) T.rng (qa_cons (qv 1) qa_nil)) (blkOk_by (by kernel_rfl)) (fun _ _ _ _ _ => (qg_name (i := 4) sc__law_prices.nd rfl (by first | exact .inl rfl | exact .inr rfl))) (fun _ _ _ _ _ => qts_nil) (fun _ _ _ _ _ => (q_fd G__law_price (hr.mono (by decide)) (by rfl) (qa_cons (qv 0) (qa_cons (qv 3) (qa_cons (qv 4) (qa_cons (qv 2) qa_nil))))))) qa_nil)))) qa_nil))))), fun ds m Kd h => ?_⟩
  obtain ⟨_, p, deeds, top, c, rfl, d2, h1, h2, hc, hp, h⟩ := h
  refine ⟨_, rfl, rfl, p, 3, c, rfl, by decide, by decide, by omega, hp, fun r m1 hr1 hs => ⟨rfl, rfl, _, rfl, fun e2 => ?_, fun e2 => ?_⟩⟩
  · refine ⟨_, SubM.refl _, h none m1 ⟨fun w => if_pos rfl, fun w g q hwg hq => ?_⟩ (fun w g x hx => ?_) (hs.mono (by omega))⟩
    · have hq : (if g = w then some 0 else some 1) = some q := hq
      rw [if_neg (fun z => hwg z.symm)] at hq
      have := Option.some.inj hq
      omega
    · have hx : (if g = w then some 0 else some 1) = some x := hx
      split at hx <;> (have := Option.some.inj hx; omega)
  · refine ⟨_, rfl, _, rfl, by omega, by omega, ?_⟩
    rw [rg0, Int.toNat_natCast]
    refine lc_pot (ys := List.range deeds) (enc := nD) (p := p) (c := c + 1) (k := 6) (Rl := fun d dd => ∃ f : Nat → Option Nat, dd = .tup (rgM deeds fun e => encO (f e)) ∧ ∀ e, (d = e → f e = some 0) ∧ (d ≠ e → ∀ x, f e = some x → 1 ≤ x ∧ x ≤ top)) (szR _ (by omega)) hs.pot (fun d hd m3 c' Q N hc' hp3 hq => ⟨fun _ => ?_, nofun⟩) (fun acc2 m3 ha2 hr2 hs2 => ?_)
    · rw [List.length_range] at hc'
      refine ⟨_, rfl, _, rfl, by omega, by omega, ?_⟩
      rw [rg0, Int.toNat_natCast]
      refine lc_pot (ys := List.range deeds) (enc := nD) (p := p) (c := c') (k := 2) (Rl := fun e dd => ∃ o : Option Nat, dd = encO o ∧ ((d = e → o = some 0) ∧ (d ≠ e → ∀ x, o = some x → 1 ≤ x ∧ x ≤ top))) (szR _ (by omega)) hp3 (fun e he m4 c4 Q4 N4 hc4 hp4 hq4 => ⟨fun _ => ?_, nofun⟩) (fun acc4 m4 ha4 hr4 hs4 => ?_)
      · rw [List.length_range] at hc4
        exact ⟨_, rfl, _, rfl, _, rfl, _, rfl, rfl, p, d, e, top, c4, rfl, h1, h2, by omega, hp4, fun o m5 ho1 ho2 hs5 => hq4 _ _ ⟨o, rfl, ho1, ho2⟩ hs5⟩
      · rw [List.length_range] at hs4
        obtain ⟨f, e1, e2⟩ := pick (enc := encO) (P := fun e o => (d = e → o = some 0) ∧ (d ≠ e → ∀ x, o = some x → 1 ≤ x ∧ x ≤ top)) (fun e => if d = e then some 0 else none) (fun e => ⟨fun z => if_pos z, fun z x hx => by have hx : (if d = e then some 0 else none) = some x := hx; rw [if_neg z] at hx; cases hx⟩) ha4 hr4
        rw [e1]
        exact ⟨_, _, rfl, rfl, hq _ _ ⟨f, rfl, e2⟩ (hs4.mono (by omega))⟩
    · rw [List.length_range] at hs2
      obtain ⟨f, e1, e2⟩ := pick (enc := fun f : Nat → Option Nat => .tup (rgM deeds fun d => encO (f d))) (P := fun d f => ∀ e, (d = e → f e = some 0) ∧ (d ≠ e → ∀ x, f e = some x → 1 ≤ x ∧ x ≤ top)) (fun d e => if d = e then some 0 else none) (fun d e => ⟨fun z => if_pos z, fun z x hx => by have hx : (if d = e then some 0 else none) = some x := hx; rw [if_neg z] at hx; cases hx⟩) ha2 hr2
      rw [e1]
      refine ⟨_, _, rfl, rfl, _, SubM.refl _, h (some f) m3 ⟨fun w => (e2 w w).1 rfl, fun w g q hwg hq => ?_⟩ (fun w g x hx => ?_) ((hs.trans hs2).mono (by omega))⟩
      · have := (e2 w g).2 hwg q hq
        omega
      · by_cases e : w = g
        · have z := (e2 w g).1 e
          have hx : f w g = some x := hx
          rw [z] at hx
          have := Option.some.inj hx
          omega
        · exact ((e2 w g).2 e x hx).2
end
end MW

end
section
set_option Elab.async false
set_option linter.all false
set_option maxRecDepth 100000
set_option pp.maxSteps 400
/-! MwN: the law's own keeping. -/
namespace MW
open PySem PySem.Spec PyProof.Rows L2
theorem goodAt_list (rs : List Nat) : GoodAt (.lst (rs.map nD)) (fun t => decide (t ∈ rs)) where
  look := fun _ => rfl
  non := by
    show (if (((rs.map nD).all flatD) && flatD .non) = true then some ((rs.map nD).any fun z => eqD z .non) else none) = _
    rw [if_pos (by rw [Bool.and_eq_true]; exact ⟨List.all_eq_true.mpr fun x hx => by obtain ⟨t, _, e⟩ := List.mem_map.mp hx; subst e; rfl, rfl⟩)]
    congr 1
    refine Bool.eq_false_iff.mpr fun z => ?_
    obtain ⟨x, hx, e⟩ := List.any_eq_true.mp z
    obtain ⟨t, _, e2⟩ := List.mem_map.mp hx
    subst e2
    rw [eqD_in] at e
    cases e
  at_ := fun t => memD_nats
theorem goodAt_keptL (s : Say) (f : Fee) : GoodAt (.lst ((s.kepts f).map nD)) (s.keptB f) := by
  have e : (fun t => decide (t ∈ s.kepts f)) = s.keptB f := by
    funext t
    cases h : s.keptB f t with
    | true => exact decT (Say.mem_kepts.mpr (Say.keptB_iff.mp h))
    | false => exact decF fun z => Say.keptB_no.mp h (Say.mem_kepts.mp z)
  have := goodAt_list (s.kepts f)
  rw [e] at this
  exact this
theorem keeps_any {s : Say} {f : Fee} {p : Nat → Bool} {r g w : Nat} : ((f.ans s.deeds w).map fun d => (s.go r g d).any p).any id = !(s.keeps f p r g w).isEmpty := by
  rw [List.any_map]
  unfold Say.keeps
  generalize f.ans s.deeds w = l
  induction l with
  | nil => rfl
  | cons x l ih =>
    rw [List.any_cons, List.filter_cons]
    show ((s.go r g x).any p || _) = _
    cases e : (s.go r g x).any p with
    | true => rfl
    | false => rw [Bool.false_or, if_neg Bool.false_ne_true]; exact ih
theorem eqD_lists : ∀ {a b : List Nat}, eqD (.lst (a.map nD)) (.lst (b.map nD)) = decide (a = b)
  | [], [] => by simp [eqD, toP, toPs, PyData.eqv, PyData.eqvAll]
  | [], y :: b => by simp [eqD, toP, toPs, PyData.eqv, PyData.eqvAll]
  | x :: a, [] => by simp [eqD, toP, toPs, PyData.eqv, PyData.eqvAll]
  | x :: a, y :: b => by
    have ih := eqD_lists (a := a) (b := b)
    have e : eqD (.lst ((x :: a).map nD)) (.lst ((y :: b).map nD)) = (eqD (nD x) (nD y) && eqD (.lst (a.map nD)) (.lst (b.map nD))) := by
      simp [eqD, toP, toPs, PyData.eqv, PyData.eqvAll]
    rw [e, ih, eqD_nat]
    by_cases h1 : x = y <;> by_cases h2 : a = b <;> simp [h1, h2]
section
variable {P : Program} {w : World} {K : PySem.W.Frag} {mg : Str → Option Value} {base : Heap}
abbrev st__law_whole : Stmt := topS 71
theorem sc__law_whole : FnScope ["found"] ["found"] (defScope st__law_whole) := ⟨rfl, rfl, rfl, by decide +kernel, rfl, by decide +kernel, by decide +kernel⟩
def sp__law_whole : DSp := pureS 1 fun ds d => ∃ i, ds = [.int i] ∧ d = .bl true
theorem ok__law_whole {f : Addr} {fd : FuncData} (F : Fun K "_law_whole" "_law_whole" st__law_whole f fd) (T : Txt mg)  : FnOk P w K mg base CX0 1 f fd ["found"] (spD K sp__law_whole) := by
  refine fn_d F sc__law_whole (fun _ _ _ h => h.1) fun cdv A outer s H E hr => ⟨_, (qss_one (qs_ret (q_and (q_callB call_isi liftIsi (by rfl) T.isi (by decide +kernel) (qa_cons (qv 0) (qa_cons (q_type (n := "int") (by rfl) T.int (by decide +kernel)) qa_nil))) (q_one (q_not (q_callB call_isi liftIsi (by rfl) T.isi (by decide +kernel) (qa_cons (qv 0) (qa_cons (q_type (n := "bool") (by rfl) T.bool (by decide +kernel)) qa_nil)))))))), fun ds m Kd h => ?_⟩
  obtain ⟨_, _, ⟨i, rfl, rfl⟩, h⟩ := h
  refine ⟨_, rfl, _, _, _, _, rfl, rfl, by rfl, true, rfl, fun _ => ?_, nofun⟩
  exact ⟨_, rfl, _, _, _, _, rfl, rfl, by rfl, false, rfl, m, SubM.refl m, h⟩

abbrev st__law_cost : Stmt := topS 67
theorem sc__law_cost : FnScope ["fees", "wanted", "given"] ["fees", "wanted", "given"] (defScope st__law_cost) := ⟨rfl, rfl, rfl, by decide +kernel, rfl, by decide +kernel, by decide +kernel⟩
def sp__law_cost : DSp := pureS 3 fun ds d => ∃ n f w g, Fee.Ok n f ∧ w < n ∧ g < n ∧ ds = [Fee.enc n f, nD w, nD g] ∧ d = encO (f.cost w g)
theorem ok__law_cost {f : Addr} {fd : FuncData} (F : Fun K "_law_cost" "_law_cost" st__law_cost f fd) (T : Txt mg)  : FnOk P w K mg base CX0 1 f fd ["fees", "wanted", "given"] (spD K sp__law_cost) := by
  refine fn_d F sc__law_cost (fun _ _ _ h => h.1) fun cdv A outer s H E hr => ⟨_, (qss_cons (qs_if (qt_cmp (op_eqD hr.units) liftEq (qv 1) (qv 2) (nomark _))
 (qss_one (qs_ret q_int))
 qss_nil)
 (qss_cons (qs_if (qt_cmp op_isN liftIsN (qv 0) q_non (nomark _))
 (qss_one (qs_ret q_int))
 qss_nil)
 (qss_one (qs_ret (q_ix (q_ix (qv 0) (qv 1)) (qv 2)))))), fun ds m Kd h => ?_⟩
  obtain ⟨_, _, ⟨n, fe, w0, g0, fo, hw, hg, rfl, rfl⟩, h⟩ := h
  refine ⟨_, rfl, _, rfl, rfl, rfl, _, rfl, fun e => ?_, fun e => ?_⟩
  · rw [eqD_nat] at e
    have e := of_decide_eq_true e
    subst e
    rw [fo.self] at h
    exact ⟨m, SubM.refl m, h⟩
  · rw [eqD_nat] at e
    have e := of_decide_eq_false e
    cases fe with
    | none =>
      have z : Fee.cost none w0 g0 = some 1 := if_neg fun z => e z.symm
      rw [z] at h
      exact ⟨_, rfl, rfl, .inl ⟨rfl, _, rfl, fun _ => ⟨m, SubM.refl m, h⟩, nofun⟩⟩
    | some c =>
      refine ⟨_, rfl, rfl, .inr (.inr ⟨⟨_, rfl⟩, _, rfl, nofun, fun _ => ?_⟩)⟩
      exact ⟨_, rfl, _, rfl, _, _, _, rfl, rfl, at_rg hw, _, rfl, _, _, _, rfl, rfl, at_rg hg, m, SubM.refl m, h⟩

abbrev st__law_answers : Stmt := topS 68
theorem sc__law_answers : FnScope ["fees", "deeds", "wanted", "given"] ["fees", "deeds", "wanted"] (defScope st__law_answers) := ⟨rfl, rfl, rfl, by decide +kernel, rfl, by decide +kernel, by decide +kernel⟩
def sp__law_answers : DSp := pureS 3 fun ds d => ∃ n f w, Fee.Ok n f ∧ w < n ∧ n ≤ 9 ∧ ds = [Fee.enc n f, nD n, nD w] ∧ d = .lst ((f.ans n w).map nD)
theorem ok__law_answers {f : Addr} {fd : FuncData} (F : Fun K "_law_answers" "_law_answers" st__law_answers f fd) (T : Txt mg) (G__law_cost : Fd P w K mg base 1 "_law_cost" ["fees", "wanted", "given"] sp__law_cost) : FnOk P w K mg base CX0 2 f fd ["fees", "deeds", "wanted"] (spD K sp__law_answers) := by
  refine fn_d F sc__law_answers (fun _ _ _ h => h.1) fun cdv A outer s H E hr => ⟨_, (qss_one (qs_ret (q_lc (own := [("given", 3)]) rfl sc__law_answers.nd (qi_range (by rfl) T.rng (qa_cons (qv 1) qa_nil)) (blkOk_by (by kernel_rfl)) (fun _ _ _ _ _ => (qg_name (i := 3) sc__law_answers.nd rfl (by first | exact .inl rfl | exact .inr rfl))) (fun _ _ _ _ _ => (qts_one (qt_cmp op_notN liftNotN (q_fd G__law_cost (hr.mono (by decide)) (by rfl) (qa_cons (qv 0) (qa_cons (qv 2) (qa_cons (qv 3) qa_nil)))) q_non (nomark _)))) (fun _ _ _ _ _ => (qv 3))))), fun ds m Kd h => ?_⟩
  obtain ⟨_, _, ⟨n, f, w0, fo, hw, hn, rfl, rfl⟩, h⟩ := h
  refine ⟨_, rfl, _, rfl, by omega, by omega, ?_⟩
  rw [rg0, Int.toNat_natCast]
  refine lc_filt (p := fun g => (f.cost w0 g).isSome) (g := nD) (szR n (by omega)) (fun g hg m2 Q N sm hq hn' => ?_) ⟨m, SubM.refl m, h⟩
  have hg : g < n := List.mem_range.mp hg
  refine ⟨_, rfl, _, rfl, _, rfl, rfl, _, ⟨n, f, w0, g, fo, hw, hg, rfl, rfl⟩, ?_⟩
  cases e : f.cost w0 g with
  | none => exact ⟨rfl, .inl ⟨rfl, _, rfl, nofun, fun _ => hn' (by rw [e]; rfl)⟩⟩
  | some q => exact ⟨rfl, .inr (.inl ⟨⟨_, rfl⟩, _, rfl, fun _ => ⟨_, rfl, hq (by rw [e]; rfl)⟩, nofun⟩)⟩

abbrev st__law_held : Stmt := topS 69
theorem sc__law_held : FnScope ["saying", "fees", "rooms", "room", "signs", "deeds", "table", "sign", "wanted", "given"] ["saying", "fees", "rooms", "room"] (defScope st__law_held) := ⟨rfl, rfl, rfl, by decide +kernel, rfl, by decide +kernel, by decide +kernel⟩
def sp__law_held : DSp := pureS 4 fun ds d => ∃ s f G p r, Say.Ok s ∧ Fee.Ok s.deeds f ∧ GoodAt G p ∧ r < s.rooms ∧ ds = [s.enc, Fee.enc s.deeds f, G, nD r] ∧ d = .bl (s.held f p r)
theorem ok__law_held {f : Addr} {fd : FuncData} (F : Fun K "_law_held" "_law_held" st__law_held f fd) (T : Txt mg) (G__law_answers : Fd P w K mg base 2 "_law_answers" ["fees", "deeds", "wanted"] sp__law_answers) : FnOk P w K mg base CX0 3 f fd ["saying", "fees", "rooms", "room"] (spD K sp__law_held) := by
  refine fn_d F sc__law_held (fun _ _ _ h => h.1) fun cdv A outer s H E hr => ⟨_, (qss_cons (qs_asg (vs := [4, 5, 6]) (qv 0) (qg_tup (n := 3) rfl (qgs_cons (qg_name (i := 4) sc__law_held.nd rfl (by first | exact .inl rfl | exact .inr rfl)) (qgs_cons (qg_name (i := 5) sc__law_held.nd rfl (by first | exact .inl rfl | exact .inr rfl)) (qgs_cons (qg_name (i := 6) sc__law_held.nd rfl (by first | exact .inl rfl | exact .inr rfl)) qgs_nil)))))
 (qss_cons (qs_for (vs := [7]) PassesOwn.never rfl (qi_range (by rfl) T.rng (qa_cons (qv 4) qa_nil)) (qg_name (i := 7) sc__law_held.nd rfl (by first | exact .inl rfl | exact .inr rfl))
 (qss_one (qs_for (vs := [8]) PassesOwn.never rfl (qi_range (by rfl) T.rng (qa_cons (qv 5) qa_nil)) (qg_name (i := 8) sc__law_held.nd rfl (by first | exact .inl rfl | exact .inr rfl))
 (qss_one (qs_if (qt_not (qt_val (q_callB (cr_any rfl) liftAny (by rfl) T.any (by decide +kernel) (qa_cons (q_lc (own := [("given", 9)]) rfl sc__law_held.nd (qi_list (q_fd G__law_answers (hr.mono (by decide)) (by rfl) (qa_cons (qv 1) (qa_cons (qv 5) (qa_cons (qv 8) qa_nil))))) (blkOk_by (by kernel_rfl)) (fun _ _ _ _ _ => (qg_name (i := 9) sc__law_held.nd rfl (by first | exact .inl rfl | exact .inr rfl))) (fun _ _ _ _ _ => qts_nil) (fun _ _ _ _ _ => (q_cmp (op_inA (hu_of hr)) (liftIn false) (q_ix (q_ix (q_ix (qv 6) (qv 3)) (qv 7)) (qv 9)) (qv 2) (by rfl)))) qa_nil))))
 (qss_one (qs_ret q_bl))
 qss_nil)))))
 (qss_one (qs_ret q_bl)))), fun ds m Kd h => ?_⟩
  obtain ⟨_, _, ⟨z, fe, G, p, r, ok, fo, hG, hr0, rfl, rfl⟩, h⟩ := h
  have d2 := ok.d2
  have s2 := ok.s2
  refine ⟨_, rfl, [nD z.signs, nD z.deeds, z.tableD], rfl, rfl, _, _, rfl, _, _, rfl, _, _, rfl, rfl, ?_⟩
  refine ⟨_, rfl, _, rfl, by omega, by omega, ?_⟩
  rw [rg0, Int.toNat_natCast]
  refine for_T (fun i δ m' => m' = m ∧ (∃ x y u, δ = [some z.enc, some (Fee.enc z.deeds fe), some G, some (nD r), some (nD z.signs), some (nD z.deeds), some z.tableD, x, y, u]) ∧ ∀ g < i, ∀ w < z.deeds, (z.keeps fe p r g w).isEmpty = false) ⟨rfl, ⟨none, none, none, rfl⟩, fun g hg => absurd hg (Nat.not_lt_zero g)⟩ ?_ ?_
  · rintro i y δ m' hy ⟨rfl, ⟨x1, x2, x3, rfl⟩, hk⟩
    obtain ⟨rfl, hi⟩ := range_get hy
    refine ⟨_, rfl, _, rfl, by omega, by omega, ?_⟩
    rw [rg0, Int.toNat_natCast]
    refine for_T (fun j δ m'' => m'' = m' ∧ (∃ x u, δ = [some z.enc, some (Fee.enc z.deeds fe), some G, some (nD r), some (nD z.signs), some (nD z.deeds), some z.tableD, some (nD y), x, u]) ∧ ∀ w < j, (z.keeps fe p r y w).isEmpty = false) ⟨rfl, ⟨x2, x3, rfl⟩, fun g hg => absurd hg (Nat.not_lt_zero g)⟩ ?_ ?_
    · rintro j y2 δ m'' hy2 ⟨rfl, ⟨x3, x4, rfl⟩, hk2⟩
      obtain ⟨rfl, hj⟩ := range_get hy2
      refine ⟨_, rfl, _, rfl, _, rfl, rfl, _, ⟨z.deeds, fe, y2, fo, hj, by omega, rfl, rfl⟩, _, rfl, ?_⟩
      refine lc_map (g := fun d => .bl ((z.go r y d).any p)) (sz_of (by have := ans_len (f := fe) (n := z.deeds) (w := y2); omega)) (fun d hd m2 Q N sm hq => ⟨fun _ => ?_, nofun⟩) ?_
      · have hd := ans_lt hd
        exact ⟨_, rfl, _, rfl, _, _, _, rfl, rfl, at_rg hr0, _, rfl, _, _, _, rfl, rfl, at_rg hi, _, rfl, _, _, _, rfl, rfl, at_rg hd, _, rfl, _, hG.go _ _, hq⟩
      · refine ⟨_, (fe.ans z.deeds y2).map fun d => (z.go r y d).any p, rfl, bls (p := fun d => (z.go r y d).any p), ?_⟩
        rw [keeps_any]
        refine ⟨_, rfl, fun e => ?_, fun e => ?_⟩
        · have e : (z.keeps fe p r y y2).isEmpty = true := by simpa using e
          refine ⟨_, SubM.refl _, ?_⟩
          have hf : z.held fe p r = false := Bool.eq_false_iff.mpr fun z1 => by
            have z2 := List.all_eq_true.mp (List.all_eq_true.mp z1 y (List.mem_range.mpr hi)) y2 (List.mem_range.mpr hj)
            rw [e] at z2
            cases z2
          rw [hf] at h
          exact h
        · have e : (z.keeps fe p r y y2).isEmpty = false := by simpa using e
          refine ⟨rfl, ⟨_, _, rfl⟩, fun w hw => ?_⟩
          by_cases hw2 : w = y2
          · subst hw2; exact e
          · exact hk2 w (by omega)
    · rintro δ m'' ⟨rfl, ⟨x3, x4, rfl⟩, hk2⟩
      rw [List.length_range] at hk2
      refine ⟨rfl, ⟨_, _, _, rfl⟩, fun g hg => ?_⟩
      by_cases hg2 : g = y
      · subst hg2; exact hk2
      · exact hk g (by omega)
  · rintro δ m' ⟨rfl, ⟨x1, x2, x3, rfl⟩, hk⟩
    rw [List.length_range] at hk
    have hf : z.held fe p r = true := List.all_eq_true.mpr fun g hg => List.all_eq_true.mpr fun w hw => by rw [hk g (List.mem_range.mp hg) w (List.mem_range.mp hw)]; rfl
    rw [hf] at h
    exact ⟨_, SubM.refl _, h⟩

abbrev st__law_kept : Stmt := topS 70
theorem sc__law_kept : FnScope ["saying", "fees", "rooms", "turn", "left", "room"] ["saying", "fees"] (defScope st__law_kept) := ⟨rfl, rfl, rfl, by decide +kernel, rfl, by decide +kernel, by decide +kernel⟩
def sp__law_kept : DSp := pureS 2 fun ds d => ∃ s f, Say.Ok s ∧ Fee.Ok s.deeds f ∧ ds = [s.enc, Fee.enc s.deeds f] ∧ d = .lst ((s.kepts f).map nD)
theorem ok__law_kept {f : Addr} {fd : FuncData} (F : Fun K "_law_kept" "_law_kept" st__law_kept f fd) (T : Txt mg) (G__law_held : Fd P w K mg base 3 "_law_held" ["saying", "fees", "rooms", "room"] sp__law_held) : FnOk P w K mg base CX0 4 f fd ["saying", "fees"] (spD K sp__law_kept) := by
  refine fn_d F sc__law_kept (fun _ _ _ h => h.1) fun cdv A outer s H E hr => ⟨_, (qss_cons (qs_set (i := 2) sc__law_kept.nd rfl (by first | exact .inl rfl | exact .inr rfl) (q_listRg rfl (by rfl) T.lst (by rfl) T.rng (q_callB call_lenA liftLen (by rfl) T.len (by decide +kernel) (qa_cons (q_ix (qv 0) q_int) qa_nil))))
 (qss_cons (qs_for (vs := [3]) PassesOwn.never rfl (qi_range (by rfl) T.rng (qa_cons (q_callB call_lenA liftLen (by rfl) T.len (by decide +kernel) (qa_cons (q_ix (qv 0) q_int) qa_nil)) qa_nil)) (qg_name (i := 3) sc__law_kept.nd rfl (by first | exact .inl rfl | exact .inr rfl))
 (qss_cons (qs_setLc (i := 4) (own := [("room", 5)]) rfl sc__law_kept.nd rfl rfl (sw_true rfl rfl rfl (by decide +kernel)) (qi_list (qv 2)) (blkOk_by (by kernel_rfl)) (fun _ _ _ _ _ => (qg_name (i := 5) sc__law_kept.nd rfl (by first | exact .inl rfl | exact .inr rfl))) (fun _ _ _ _ _ => (qts_one (qt_val (q_fd G__law_held (hr.mono (by decide)) (by rfl) (qa_cons (qv 0) (qa_cons (qv 1) (qa_cons (qv 2) (qa_cons (qv 5) qa_nil)))))))) (fun _ _ _ _ _ => (qv 5)))
 (qss_cons (qs_if (qt_cmp (op_eqD hr.units) liftEq (qv 4) (qv 2) (nomark _))
 (qss_one (qs_ret (qv 2)))
 qss_nil)
 (qss_one (qs_set (i := 2) sc__law_kept.nd rfl (by first | exact .inl rfl | exact .inr rfl) (qv 4))))))
 (qss_one (qs_ret (qv 2))))), fun ds m Kd h => ?_⟩
  obtain ⟨_, _, ⟨z, fe, ok, fo, rfl, rfl⟩, h⟩ := h
  have r2 := ok.r2
  have lr : lenD (look m z.tableD) = some z.rooms := by show some (rgM z.rooms z.roomD).length = _; rw [rg_length]
  refine ⟨_, rfl, _, _, _, rfl, rfl, rfl, _, _, rfl, lr, z.rooms, rfl, by omega, ?_⟩
  refine ⟨_, rfl, _, _, _, rfl, rfl, rfl, _, _, rfl, lr, _, rfl, by omega, by omega, ?_⟩
  rw [rg0, Int.toNat_natCast]
  have key : ∀ {q : Nat → Bool}, (∀ t, z.Kept fe t → q t = true) → (∀ t < z.rooms, q t = true → z.Kept fe t) → (List.range z.rooms).filter q = z.kepts fe := fun {q} h1 h2 => by
    unfold Say.kepts
    refine List.filter_congr fun t ht => ?_
    have ht := List.mem_range.mp ht
    refine Bool.eq_iff_iff.mpr ⟨fun e => Say.keptB_iff.mpr (h2 t ht e), fun e => h1 t (Say.keptB_iff.mp e)⟩
  refine for_T (fun i δ m' => m' = m ∧ ∃ (q : Nat → Bool) (x3 x4 x5 : Option D), δ = [some z.enc, some (Fee.enc z.deeds fe), some (.lst (((List.range z.rooms).filter q).map nD)), x3, x4, x5] ∧ (∀ t, z.Kept fe t → q t = true) ∧ ((List.range z.rooms).filter q).length + i ≤ z.rooms) ⟨rfl, fun _ => true, _, _, _, by rw [List.filter_eq_self.mpr fun _ _ => rfl]; rfl, fun _ _ => rfl, by rw [List.filter_eq_self.mpr fun _ _ => rfl, List.length_range]; exact Nat.le_refl _⟩ ?_ ?_
  · rintro i y δ m' hy ⟨rfl, q, x3, x4, x5, rfl, hq1, hq2⟩
    obtain ⟨rfl, hi⟩ := range_get hy
    generalize hrs : (List.range z.rooms).filter q = rs at hq2
    have hrl : rs.length ≤ z.rooms := by omega
    have hmem : ∀ t ∈ rs, t < z.rooms ∧ q t = true := fun t ht => by rw [← hrs] at ht; exact ⟨List.mem_range.mp (List.mem_filter.mp ht).1, (List.mem_filter.mp ht).2⟩
    have hsup : ∀ t, z.Kept fe t → t ∈ rs := fun t ht => by rw [← hrs]; exact List.mem_filter.mpr ⟨List.mem_range.mpr ht.lt, hq1 t ht⟩
    refine ⟨(by show 4 < 6; decide), _, rfl, _, rfl, ?_⟩
    refine lc_filt (ys := rs) (enc := nD) (p := z.held fe fun t => decide (t ∈ rs)) (g := nD) (sz_of (by omega)) (fun t ht m2 Q N sm hq hn => ?_) ?_
    · exact ⟨_, rfl, _, rfl, _, rfl, _, rfl, rfl, _, ⟨z, fe, _, _, t, ok, fo, goodAt_list rs, (hmem t ht).1, rfl, rfl⟩, _, rfl, fun e => ⟨_, rfl, hq e⟩, fun e => hn e⟩
    · refine ⟨_, rfl, _, rfl, okD_nats _, okD_nats _, _, rfl, fun e => ?_, fun e => ?_⟩
      · rw [eqD_lists] at e
        have e := of_decide_eq_true e
        have hall := List.filter_eq_self.mp e
        have : rs = z.kepts fe := by
          rw [← hrs]
          refine key hq1 fun t ht hqt => ⟨fun t => decide (t ∈ rs), decT (by rw [← hrs]; exact List.mem_filter.mpr ⟨List.mem_range.mpr ht, hqt⟩), fun u hu => ⟨(hmem u (of_decide_eq_true hu)).1, hall u (of_decide_eq_true hu)⟩⟩
        rw [← this] at h
        exact ⟨_, rfl, _, SubM.refl _, h⟩
      · rw [eqD_lists] at e
        have e := of_decide_eq_false e
        have hlt : (rs.filter (z.held fe fun t => decide (t ∈ rs))).length < rs.length := by
          rcases Nat.lt_or_ge (rs.filter (z.held fe fun t => decide (t ∈ rs))).length rs.length with c | c
          · exact c
          · exact absurd (List.filter_sublist.eq_of_length_le c) e
        have ef : rs.filter (z.held fe fun t => decide (t ∈ rs)) = (List.range z.rooms).filter (fun t => z.held fe (fun t => decide (t ∈ rs)) t && q t) := by
          rw [← List.filter_filter, hrs]
        refine ⟨_, rfl, rfl, fun t => z.held fe (fun t => decide (t ∈ rs)) t && q t, _, _, _, by rw [← ef]; rfl, fun t ht => ?_, by rw [← ef]; omega⟩
        rw [Bool.and_eq_true]
        exact ⟨ht.held fun u hu => decT (hsup u hu), hq1 t ht⟩
  · rintro δ m' ⟨rfl, q, x3, x4, x5, rfl, hq1, hq2⟩
    rw [List.length_range] at hq2
    have e0 : (List.range z.rooms).filter q = [] := List.eq_nil_of_length_eq_zero (by omega)
    have := key hq1 fun t ht hqt => by
      have : t ∈ (List.range z.rooms).filter q := List.mem_filter.mpr ⟨List.mem_range.mpr ht, hqt⟩
      rw [e0] at this
      cases this
    rw [← this] at h
    exact ⟨_, rfl, _, SubM.refl _, h⟩
end
end MW

end
section
set_option Elab.async false
set_option linter.all false
set_option maxRecDepth 100000
set_option pp.maxSteps 400
/-! MwO: the law's own steps and answers. -/
namespace MW
open PySem PySem.Spec PyProof.Rows L2
section
variable {P : Program} {w : World} {K : PySem.W.Frag} {mg : Str → Option Value} {base : Heap}
abbrev st__law_some : Stmt := topS 72
theorem sc__law_some : FnScope ["saying", "fees", "kept", "room", "sign", "wanted", "row", "given"] ["saying", "fees", "kept", "room", "sign", "wanted"] (defScope st__law_some) := ⟨rfl, rfl, rfl, by decide +kernel, rfl, by decide +kernel, by decide +kernel⟩
def sp__law_some : DSp := pureS 6 fun ds d => ∃ s f G p r g w, Say.Ok s ∧ Fee.Ok s.deeds f ∧ GoodAt G p ∧ r < s.rooms ∧ g < s.signs ∧ w < s.deeds ∧ ds = [s.enc, Fee.enc s.deeds f, G, nD r, nD g, nD w] ∧ d = .lst ((s.keeps f p r g w).map nD)
theorem ok__law_some {f : Addr} {fd : FuncData} (F : Fun K "_law_some" "_law_some" st__law_some f fd) (T : Txt mg) (G__law_answers : Fd P w K mg base 2 "_law_answers" ["fees", "deeds", "wanted"] sp__law_answers) : FnOk P w K mg base CX0 3 f fd ["saying", "fees", "kept", "room", "sign", "wanted"] (spD K sp__law_some) := by
  refine fn_d F sc__law_some (fun _ _ _ h => h.1) fun cdv A outer s H E hr => ⟨_, (qss_cons (qs_set (i := 6) sc__law_some.nd rfl (by first | exact .inl rfl | exact .inr rfl) (q_ix (q_ix (q_ix (qv 0) q_int) (qv 3)) (qv 4)))
 (qss_one (qs_ret (q_lc (own := [("given", 7)]) rfl sc__law_some.nd (qi_list (q_fd G__law_answers (hr.mono (by decide)) (by rfl) (qa_cons (qv 1) (qa_cons (q_ix (qv 0) q_int) (qa_cons (qv 5) qa_nil))))) (blkOk_by (by kernel_rfl)) (fun _ _ _ _ _ => (qg_name (i := 7) sc__law_some.nd rfl (by first | exact .inl rfl | exact .inr rfl))) (fun _ _ _ _ _ => (qts_one (qt_cmp (op_inA (hu_of hr)) (liftIn false) (q_ix (qv 6) (qv 7)) (qv 2) (by rfl)))) (fun _ _ _ _ _ => (qv 7)))))), fun ds m Kd h => ?_⟩
  obtain ⟨_, _, ⟨z, fe, G, p, r, g, w0, ok, fo, hG, hr0, hg, hw, rfl, rfl⟩, h⟩ := h
  have d2 := ok.d2
  refine ⟨_, rfl, _, _, _, rfl, rfl, rfl, _, rfl, _, _, _, rfl, rfl, at_rg hr0, _, rfl, _, _, _, rfl, rfl, at_rg hg, ?_⟩
  refine ⟨_, rfl, _, rfl, _, _, _, rfl, rfl, rfl, _, rfl, rfl, _, ⟨z.deeds, fe, w0, fo, hw, by omega, rfl, rfl⟩, _, rfl, ?_⟩
  refine lc_filt (p := fun d => (z.go r g d).any p) (g := nD) (sz_of (by have := ans_len (f := fe) (n := z.deeds) (w := w0); omega)) (fun d hd m2 Q N sm hq hn' => ?_) ⟨m, SubM.refl m, h⟩
  have hd := ans_lt hd
  exact ⟨_, rfl, _, rfl, _, _, _, rfl, rfl, at_rg hd, _, rfl, _, hG.go _ _, _, rfl, fun e => ⟨_, rfl, hq e⟩, fun e => hn' e⟩

abbrev st__law_asks : Stmt := topS 73
theorem sc__law_asks : FnScope ["saying", "kept", "room", "found", "sign", "wanted"] ["saying", "kept", "room"] (defScope st__law_asks) := ⟨rfl, rfl, rfl, by decide +kernel, rfl, by decide +kernel, by decide +kernel⟩
def sp__law_asks : DSp := pureS 3 fun ds d => ∃ s G p r, Say.Ok s ∧ GoodAt G p ∧ r < s.rooms ∧ ds = [s.enc, G, nD r] ∧ d = .lst ((s.steps p r).map prN)
theorem ok__law_asks {f : Addr} {fd : FuncData} (F : Fun K "_law_asks" "_law_asks" st__law_asks f fd) (T : Txt mg)  : FnOk P w K mg base CX0 1 f fd ["saying", "kept", "room"] (spD K sp__law_asks) := by
  refine fn_d F sc__law_asks (fun _ _ _ h => h.1) fun cdv A outer s H E hr => ⟨_, (qss_cons (qs_set (i := 3) sc__law_asks.nd rfl (by first | exact .inl rfl | exact .inr rfl) (q_lstc qa_nil))
 (qss_cons (qs_for (vs := [4]) PassesOwn.never rfl (qi_range (by rfl) T.rng (qa_cons (q_ix (qv 0) q_int) qa_nil)) (qg_name (i := 4) sc__law_asks.nd rfl (by first | exact .inl rfl | exact .inr rfl))
 (qss_one (qs_for (vs := [5]) PassesOwn.never rfl (qi_range (by rfl) T.rng (qa_cons (q_ix (qv 0) q_int) qa_nil)) (qg_name (i := 5) sc__law_asks.nd rfl (by first | exact .inl rfl | exact .inr rfl))
 (qss_one (qs_if (qt_cmp (op_inA (hu_of hr)) (liftIn false) (q_ix (q_ix (q_ix (q_ix (qv 0) q_int) (qv 2)) (qv 4)) (qv 5)) (qv 1) (by rfl))
 (qss_one (qs_expr (q_append (qv 3) (qa_cons (q_tup (qa_cons (qv 4) (qa_cons (qv 5) qa_nil))) qa_nil))))
 qss_nil)))))
 (qss_one (qs_ret (q_seal (qv 3)))))), fun ds m Kd h => ?_⟩
  obtain ⟨_, _, ⟨z, G, pp, r, ok, hG, hr0, rfl, rfl⟩, h⟩ := h
  have s2 := ok.s2
  have d2 := ok.d2
  have z2 : 2 ≤ sizeLine := sz_of (by decide)
  refine ⟨Nat.zero_le _, fun p hp => ?_⟩
  refine ⟨_, rfl, _, _, _, rfl, rfl, rfl, _, rfl, by omega, by omega, ?_⟩
  rw [rg0, Int.toNat_natCast]
  refine for_T (fun i δ m' => ∃ (l : List Pr) (x1 x2 : Option D), l.length ≤ 3 * i ∧ l = (((List.range z.signs).take i).flatMap fun g => ((List.range z.deeds).filter fun w => (z.go r g w).any pp).map fun w => (g, w)) ∧ m' = updM m p (.lst (l.map prN)) ∧ δ = [some z.enc, some G, some (nD r), some (.ref p), x1, x2]) ⟨[], _, _, Nat.zero_le _, rfl, rfl, rfl⟩ ?_ ?_
  · rintro i g δ m' hy ⟨l, x1, x2, hl, el, rfl, rfl⟩
    obtain ⟨rfl, hg⟩ := range_get hy
    refine ⟨_, rfl, _, _, _, rfl, rfl, rfl, _, rfl, by omega, by omega, ?_⟩
    rw [rg0, Int.toNat_natCast]
    refine for_T (fun j δ m'' => ∃ (l' : List Pr) (x2 : Option D), l'.length ≤ 3 * g + j ∧ l' = l ++ (((List.range z.deeds).take j).filter fun w => (z.go r g w).any pp).map (fun w => (g, w)) ∧ m'' = updM m p (.lst (l'.map prN)) ∧ δ = [some z.enc, some G, some (nD r), some (.ref p), some (nD g), x2]) ⟨l, _, hl, by simp, rfl, rfl⟩ ?_ ?_
    · rintro j w0 δ m'' hy2 ⟨l', y2, hl', el', rfl, rfl⟩
      have hyy := hy2
      obtain ⟨rfl, hw⟩ := range_get hy2
      refine ⟨_, rfl, _, _, _, rfl, rfl, rfl, _, rfl, _, _, _, rfl, rfl, at_rg hr0, _, rfl, _, _, _, rfl, rfl, at_rg hg, _, rfl, _, _, _, rfl, rfl, at_rg hw, _, rfl, _, hG.go _ _, _, rfl, fun e1 => ?_, fun e1 => ?_⟩
      · have e1 : (z.go r g w0).any pp = true := e1
        refine ⟨_, rfl, p, _, rfl, updM_same, _, rfl, _, rfl, z2, _, _, rfl, updM_same, ?_, ?_⟩
        · rw [List.length_map, sizeLine_eq]; omega
        · rw [updM_updM]
          refine ⟨l' ++ [(g, w0)], _, ?_, ?_, ?_, rfl⟩
          · rw [List.length_append]; simp; omega
          · rw [take_succ hyy, List.filter_append, List.map_append, el', List.append_assoc]
            congr 2
            rw [List.filter_cons, if_pos e1]
            rfl
          · rw [List.map_append]; rfl
      · have e1 : (z.go r g w0).any pp = false := e1
        refine ⟨l', _, by omega, ?_, rfl, rfl⟩
        rw [take_succ hyy, List.filter_append, List.filter_cons, if_neg (by rw [e1]; exact Bool.false_ne_true), el']
        simp
    · rintro δ m'' ⟨l', y2, hl', el', rfl, rfl⟩
      rw [List.length_range] at hl'
      rw [List.take_length] at el'
      refine ⟨l', _, _, by omega, ?_, rfl, rfl⟩
      rw [take_succ hy, List.flatMap_append, el', el]
      simp
  · rintro δ m' ⟨l, x1, x2, hl, el, rfl, rfl⟩
    rw [List.take_length] at el
    refine ⟨_, rfl, p, _, rfl, updM_same, trivial, m, by rw [delM_updM hp]; exact SubM.refl m, ?_⟩
    rw [el]
    exact h

abbrev st__law_answered : Stmt := topS 74
theorem sc__law_answered : FnScope ["saying", "fees", "kept", "pair", "step", "own", "other", "sign", "wanted", "found", "given", "come"] ["saying", "fees", "kept", "pair", "step"] (defScope st__law_answered) := ⟨rfl, rfl, rfl, by decide +kernel, rfl, by decide +kernel, by decide +kernel⟩
def sp__law_answered : DSp := pureS 5 fun ds d => ∃ s f G q st, Say.Ok s ∧ Fee.Ok s.deeds f ∧ GoodAt G (s.keptB f) ∧ q.1 < s.rooms ∧ q.2 < s.rooms ∧ st.1 < s.signs ∧ st.2 < s.deeds ∧ (s.go q.1 st.1 st.2).any (s.keptB f) = true ∧ ds = [s.enc, Fee.enc s.deeds f, G, prN q, prN st] ∧ d = .lst ((s.anss f (s.keptB f) q st).map ansD)
theorem ok__law_answered {f : Addr} {fd : FuncData} (F : Fun K "_law_answered" "_law_answered" st__law_answered f fd) (T : Txt mg) (G__law_some : Fd P w K mg base 3 "_law_some" ["saying", "fees", "kept", "room", "sign", "wanted"] sp__law_some) (G__law_cost : Fd P w K mg base 1 "_law_cost" ["fees", "wanted", "given"] sp__law_cost) : FnOk P w K mg base CX0 4 f fd ["saying", "fees", "kept", "pair", "step"] (spD K sp__law_answered) := by
  refine fn_d F sc__law_answered (fun _ _ _ h => h.1) fun cdv A outer s H E hr => ⟨_, (qss_cons (qs_asg (vs := [5, 6]) (qv 3) (qg_tup (n := 2) rfl (qgs_cons (qg_name (i := 5) sc__law_answered.nd rfl (by first | exact .inl rfl | exact .inr rfl)) (qgs_cons (qg_name (i := 6) sc__law_answered.nd rfl (by first | exact .inl rfl | exact .inr rfl)) qgs_nil))))
 (qss_cons (qs_asg (vs := [7, 8]) (qv 4) (qg_tup (n := 2) rfl (qgs_cons (qg_name (i := 7) sc__law_answered.nd rfl (by first | exact .inl rfl | exact .inr rfl)) (qgs_cons (qg_name (i := 8) sc__law_answered.nd rfl (by first | exact .inl rfl | exact .inr rfl)) qgs_nil))))
 (qss_cons (qs_set (i := 9) sc__law_answered.nd rfl (by first | exact .inl rfl | exact .inr rfl) (q_lstc qa_nil))
 (qss_cons (qs_for (vs := [10]) PassesOwn.never rfl (qi_list (q_fd G__law_some (hr.mono (by decide)) (by rfl) (qa_cons (qv 0) (qa_cons (qv 1) (qa_cons (qv 2) (qa_cons (qv 6) (qa_cons (qv 7) (qa_cons (qv 8) qa_nil)))))))) (qg_name (i := 10) sc__law_answered.nd rfl (by first | exact .inl rfl | exact .inr rfl))
 (qss_cons (qs_set (i := 11) sc__law_answered.nd rfl (by first | exact .inl rfl | exact .inr rfl) (q_tup (qa_cons (q_ix (q_ix (q_ix (q_ix (qv 0) q_int) (qv 5)) (qv 7)) (qv 8)) (qa_cons (q_ix (q_ix (q_ix (q_ix (qv 0) q_int) (qv 6)) (qv 7)) (qv 10)) qa_nil))))
 (qss_one (qs_expr (q_append (qv 9) (qa_cons (q_tup (qa_cons (q_op op_add liftI0 (q_fd G__law_cost (hr.mono (by decide)) (by rfl) (qa_cons (qv 1) (qa_cons (qv 8) (qa_cons (qv 10) qa_nil)))) q_int) (qa_cons (qv 11) qa_nil))) qa_nil))))))
 (qss_one (qs_ret (q_seal (qv 9)))))))), fun ds m Kd h => ?_⟩
  obtain ⟨_, _, ⟨z, fe, G, q, st0, ok, fo, hG, hq1, hq2, hg, hw, hany, rfl, rfl⟩, h⟩ := h
  have d2 := ok.d2
  have z2 : 2 ≤ sizeLine := sz_of (by decide)
  refine ⟨_, rfl, [nD q.1, nD q.2], rfl, rfl, _, _, rfl, _, _, rfl, rfl, ?_⟩
  refine ⟨_, rfl, [nD st0.1, nD st0.2], rfl, rfl, _, _, rfl, _, _, rfl, rfl, ?_⟩
  refine ⟨Nat.zero_le _, fun p hp => ?_⟩
  refine ⟨_, rfl, _, rfl, _, rfl, _, rfl, _, rfl, _, rfl, rfl, _, ⟨z, fe, G, _, q.2, st0.1, st0.2, ok, fo, hG, hq2, hg, hw, rfl, rfl⟩, _, rfl, ?_⟩
  have hkl : (z.keeps fe (z.keptB fe) q.2 st0.1 st0.2).length ≤ 3 := by
    have h1 : (z.keeps fe (z.keptB fe) q.2 st0.1 st0.2).length ≤ (fe.ans z.deeds st0.2).length := List.length_filter_le _ _
    have h2 := ans_len (f := fe) (n := z.deeds) (w := st0.2)
    omega
  refine for_T (fun i δ m' => ∃ (x1 x2 : Option D), δ = [some z.enc, some (Fee.enc z.deeds fe), some G, some (prN q), some (prN st0), some (nD q.1), some (nD q.2), some (nD st0.1), some (nD st0.2), some (.ref p), x1, x2] ∧ m' = updM m p (.lst ((((z.keeps fe (z.keptB fe) q.2 st0.1 st0.2).take i).map fun d => ((fe.cost st0.2 d).getD 0 + 1, ((z.go q.1 st0.1 st0.2).getD 0, (z.go q.2 st0.1 d).getD 0))).map ansD))) ⟨_, _, rfl, rfl⟩ ?_ ?_
  · rintro i d δ m' hy ⟨x1, x2, rfl, rfl⟩
    have hi : i < (z.keeps fe (z.keptB fe) q.2 st0.1 st0.2).length := (List.getElem?_eq_some_iff.mp hy).1
    obtain ⟨hd1, hd2, hd3⟩ := keeps_mem.mp (List.mem_of_getElem? hy)
    obtain ⟨h0, eg, _⟩ := any_kept hany
    obtain ⟨t0, et, _⟩ := any_kept hd3
    cases ec : fe.cost st0.2 d with
    | none => rw [ec] at hd2; cases hd2
    | some c =>
      refine ⟨_, rfl, _, _, _, rfl, rfl, rfl, _, rfl, _, _, _, rfl, rfl, at_rg hq1, _, rfl, _, _, _, rfl, rfl, at_rg hg, _, rfl, _, _, _, rfl, rfl, at_rg hw, _, rfl, _, _, _, rfl, rfl, rfl, _, rfl, _, _, _, rfl, rfl, at_rg hq2, _, rfl, _, _, _, rfl, rfl, at_rg hg, _, rfl, _, _, _, rfl, rfl, at_rg hd1, z2, ?_⟩
      refine ⟨_, rfl, p, _, rfl, updM_same, _, rfl, _, rfl, _, rfl, rfl, _, ⟨z.deeds, fe, st0.2, d, fo, hw, hd1, rfl, rfl⟩, (c : Nat), 1, by rw [ec]; rfl, rfl, _, rfl, z2, _, _, rfl, updM_same, ?_, ?_⟩
      · rw [List.length_map, List.length_map, List.length_take, sizeLine_eq]; omega
      · rw [updM_updM]
        refine ⟨_, _, rfl, ?_⟩
        congr 2
        rw [take_succ hy, List.map_append, List.map_append, eg, et]
        congr 1
        show _ = [ansD ((fe.cost st0.2 d).getD 0 + 1, ((some h0).getD 0, (z.go q.2 st0.1 d).getD 0))]
        rw [ec, et]
        rfl
  · rintro δ m' ⟨x1, x2, rfl, rfl⟩
    rw [List.take_length]
    exact ⟨_, rfl, p, _, rfl, updM_same, trivial, m, by rw [delM_updM hp]; exact SubM.refl m, h⟩
end
end MW

end
section
set_option Elab.async false
set_option linter.all false
set_option maxRecDepth 100000
set_option pp.maxSteps 400
/-! MwQ: the game of pairs as a game of numbers (plain). -/
namespace MW
open PySem PySem.Spec PyProof.Rows L2
def idxAsk (ps : List Pr) (ask : List (Nat × Pr)) : Ask := ask.map fun a => (a.1, ps.idxOf a.2)
noncomputable def Say.num (s : Say) (f : Fee) (ps : List Pr) : Game := ps.map fun q => (s.A f q).map (idxAsk ps)
theorem gameOf_num {s : Say} {f : Fee} {ps : List Pr} : s.gameOf f ps = gameD (s.num f ps) := by
  show D.tup (ps.map fun q => .tup ((s.A f q).map (encA ps))) = .tup ((ps.map fun q => (s.A f q).map (idxAsk ps)).map posD)
  rw [List.map_map]
  congr 1
  refine List.map_congr_left fun q _ => ?_
  show D.tup _ = D.tup (((s.A f q).map (idxAsk ps)).map askD)
  rw [List.map_map]
  congr 1
  refine List.map_congr_left fun ask _ => ?_
  show D.tup (ask.map fun a => .tup [nD a.1, nD (ps.idxOf a.2)]) = .tup ((ask.map fun a => (a.1, ps.idxOf a.2)).map ansN)
  rw [List.map_map]
  rfl
section
variable {s : Say} {f : Fee} {q0 : Pr} {ps : List Pr}
theorem asks_unlike {q : Pr} (h : q.1 ≠ q.2) : s.A f q = (s.steps (s.keptB f) q.1).map (s.anss f (s.keptB f) q) := if_neg h
theorem asks_alike {q : Pr} (h : q.1 = q.2) : s.A f q = [[(0, q)]] := if_pos h
theorem held_keeps {r g w : Nat} (h : s.Kept f r) (hg : g < s.signs) (hw : w < s.deeds) : s.keeps f (s.keptB f) r g w ≠ [] := by
  have hh := h.held (q := s.keptB f) fun t ht => Say.keptB_iff.mpr ht
  have := List.all_eq_true.mp (List.all_eq_true.mp hh g (List.mem_range.mpr hg)) w (List.mem_range.mpr hw)
  intro e
  rw [e] at this
  cases this
theorem steps_ne (ok : s.Ok) {r : Nat} (h : s.Kept f r) : s.steps (s.keptB f) r ≠ [] := by
  have hk := held_keeps h (g := 0) (w := 0) (by have := ok.s1; omega) (by have := ok.d1; omega)
  obtain ⟨d, l, e⟩ := List.exists_cons_of_ne_nil hk
  have hd : d ∈ s.keeps f (s.keptB f) r 0 0 := by rw [e]; exact List.mem_cons_self ..
  obtain ⟨d1, _, d3⟩ := keeps_mem.mp hd
  exact List.ne_nil_of_mem ((steps_mem (st := (0, d))).mpr ⟨by have := ok.s1; show 0 < s.signs; omega, d1, d3⟩)
theorem num_len : (s.num f ps).length = ps.length := by unfold Say.num; rw [List.length_map]
theorem num_at {i : Nat} {q : Pr} (h : ps[i]? = some q) : (s.num f ps).getD i [] = (s.A f q).map (idxAsk ps) := getD_at (by unfold Say.num; rw [List.getElem?_map, h]; rfl)
theorem idx_at (nd : ps.Nodup) {i : Nat} {q : Pr} (h : ps[i]? = some q) : ps.idxOf q = i := by
  have hi := (List.getElem?_eq_some_iff.mp h)
  obtain ⟨h1, h2⟩ := hi
  rw [← h2]
  exact nd.idxOf_getElem i h1
theorem at_idx {q : Pr} (h : q ∈ ps) : ps[ps.idxOf q]? = some q := by
  have h1 := List.idxOf_lt_length_of_mem h
  rw [List.getElem?_eq_getElem h1, List.getElem_idxOf h1]
theorem anss_pos {q st : Pr} {a : Nat × Pr} (h : a ∈ s.anss f (s.keptB f) q st) : 1 ≤ a.1 := by
  obtain ⟨d, _, e⟩ := List.mem_map.mp h
  subst e
  exact Nat.le_add_left 1 _
theorem num_ok (ok : s.Ok) (P : Places s f q0 ps) {top : Nat} (ht : ∀ w g x, f.cost w g = some x → x ≤ top) (h6 : top ≤ 6) : (s.num f ps).Ok := by
  have hl : ps.length ≤ 36 := by
    have := P.len
    have h2 : s.rooms * s.rooms ≤ 6 * 6 := Nat.mul_le_mul ok.r2 ok.r2
    omega
  have mem : ∀ asks ∈ s.num f ps, ∃ q ∈ ps, asks = (s.A f q).map (idxAsk ps) := fun asks h => by
    obtain ⟨q, hq, e⟩ := List.mem_map.mp h
    exact ⟨q, hq, e.symm⟩
  have am : ∀ asks ∈ s.num f ps, ∀ ask ∈ asks, ∃ q ∈ ps, ∃ ask0 ∈ s.A f q, ask = idxAsk ps ask0 := fun asks h ask ha => by
    obtain ⟨q, hq, e⟩ := mem asks h
    rw [e] at ha
    obtain ⟨a0, h0, e0⟩ := List.mem_map.mp ha
    exact ⟨q, hq, a0, h0, e0.symm⟩
  refine ⟨?_, by rw [num_len]; exact hl, fun asks h => ?_, fun asks h => ?_, fun asks h ask ha => ?_, fun asks h ask ha => ?_, fun asks h ask ha a haa => ?_, fun asks h ask ha a haa => ?_, fun i asks h => ?_⟩
  · rw [num_len]
    have := (List.getElem?_eq_some_iff.mp P.hd).1
    omega
  · obtain ⟨q, hq, e⟩ := mem asks h
    rw [e, List.length_map]
    by_cases c : q.1 = q.2
    · rw [asks_alike c]; exact Nat.le_refl 1
    · rw [asks_unlike c, List.length_map]
      exact List.length_pos_iff.mpr (steps_ne ok (P.kept q hq).1)
  · obtain ⟨q, hq, e⟩ := mem asks h
    rw [e, List.length_map]
    exact asks_len ok
  · obtain ⟨q, hq, a0, h0, e⟩ := am asks h ask ha
    rw [e]
    unfold idxAsk
    rw [List.length_map]
    by_cases c : q.1 = q.2
    · rw [asks_alike c] at h0
      rw [List.mem_singleton.mp h0]
      exact Nat.le_refl 1
    · rw [asks_unlike c] at h0
      obtain ⟨st, hst, e2⟩ := List.mem_map.mp h0
      subst e2
      obtain ⟨g1, g2, _⟩ := steps_mem.mp hst
      unfold Say.anss
      rw [List.length_map]
      exact List.length_pos_iff.mpr (held_keeps (P.kept q hq).2 g1 g2)
  · obtain ⟨q, hq, a0, h0, e⟩ := am asks h ask ha
    rw [e]
    unfold idxAsk
    rw [List.length_map]
    exact ask_len ok h0
  · obtain ⟨q, hq, a0, h0, e⟩ := am asks h ask ha
    rw [e] at haa
    obtain ⟨b, hb, e2⟩ := List.mem_map.mp haa
    subst e2
    show b.1 ≤ 99
    by_cases c : q.1 = q.2
    · rw [asks_alike c] at h0
      rw [List.mem_singleton.mp h0] at hb
      rw [List.mem_singleton.mp hb]
      exact Nat.zero_le _
    · rw [asks_unlike c] at h0
      obtain ⟨st, hst, e2⟩ := List.mem_map.mp h0
      subst e2
      obtain ⟨_, d, _, co, ec, e3⟩ := anss_mem hb (steps_mem.mp hst).2.2
      have := ht _ _ _ ec
      omega
  · obtain ⟨q, hq, a0, h0, e⟩ := am asks h ask ha
    rw [e] at haa
    obtain ⟨b, hb, e2⟩ := List.mem_map.mp haa
    subst e2
    rw [num_len]
    exact List.idxOf_lt_length_of_mem (P.closed q hq a0 h0 b hb)
  · unfold Say.num at h
    rw [List.getElem?_map] at h
    cases e : ps[i]? with
    | none => rw [e] at h; cases h
    | some q =>
      rw [e] at h
      have h := Option.some.inj h
      subst h
      by_cases c : q.1 = q.2
      · refine .inl ?_
        show (s.A f q).map (idxAsk ps) = _
        rw [asks_alike c]
        show [[(0, ps.idxOf q)]] = _
        rw [idx_at P.nd e]
      · refine .inr fun ask ha a haa => ?_
        obtain ⟨a0, h0, e0⟩ := List.mem_map.mp ha
        subst e0
        obtain ⟨b, hb, e2⟩ := List.mem_map.mp haa
        subst e2
        rw [asks_unlike c] at h0
        obtain ⟨st, hst, e3⟩ := List.mem_map.mp h0
        subst e3
        exact anss_pos hb
theorem num_met (P : Places s f q0 ps) {i : Nat} {q : Pr} (h : ps[i]? = some q) : metP (s.num f ps) i = decide (q.1 = q.2) := by
  unfold metP
  rw [num_at h]
  by_cases c : q.1 = q.2
  · rw [decT c, asks_alike c]
    refine decT ?_
    show [[(0, ps.idxOf q)]] = _
    rw [idx_at P.nd h]
  · rw [decF c]
    refine decF fun z => ?_
    rw [asks_unlike c] at z
    have hm : [(0, i)] ∈ ((s.steps (s.keptB f) q.1).map (s.anss f (s.keptB f) q)).map (idxAsk ps) := by rw [z]; exact List.mem_singleton.mpr rfl
    obtain ⟨a0, h0, e0⟩ := List.mem_map.mp hm
    obtain ⟨st, hst, e3⟩ := List.mem_map.mp h0
    subst e3
    have hm2 : (0, i) ∈ idxAsk ps (s.anss f (s.keptB f) q st) := by rw [e0]; exact List.mem_singleton.mpr rfl
    obtain ⟨b, hb, e2⟩ := List.mem_map.mp hm2
    have := anss_pos hb
    have e2 : b.1 = 0 := congrArg Prod.fst e2
    omega
theorem num_dear (P : Places s f q0 ps) {top : Nat} (ht : ∀ w g x, f.cost w g = some x → x ≤ top) : dear (s.num f ps) ≤ top + 1 := dear_le fun asks h ask ha a haa => by
  obtain ⟨q, hq, e⟩ := List.mem_map.mp h
  subst e
  obtain ⟨a0, h0, e0⟩ := List.mem_map.mp ha
  subst e0
  obtain ⟨b, hb, e2⟩ := List.mem_map.mp haa
  subst e2
  show b.1 ≤ top + 1
  by_cases c : q.1 = q.2
  · rw [asks_alike c] at h0
    rw [List.mem_singleton.mp h0] at hb
    rw [List.mem_singleton.mp hb]
    exact Nat.zero_le _
  · rw [asks_unlike c] at h0
    obtain ⟨st, hst, e2⟩ := List.mem_map.mp h0
    subst e2
    obtain ⟨_, d, _, co, ec, e3⟩ := anss_mem hb (steps_mem.mp hst).2.2
    have := ht _ _ _ ec
    omega
end
/-! ### numbers of pairs -/
def numK (qs : List Pr) (kf : Pr → Nat) : List ((Int × Int) × D) := qs.map fun q => (prK q, nD (kf q))
theorem numK_key {qs : List Pr} {kf : Pr → Nat} : keyP (numK qs kf) = qs.map prK := by unfold keyP numK; rw [List.map_map]; rfl
theorem numK_mem {qs : List Pr} {kf : Pr → Nat} {q : Pr} : memD (.dP (numK qs kf)) (prN q) = some (decide (q ∈ qs)) := by
  show some (getP (numK qs kf) (prK q)).isSome = _
  rw [getP_some, numK_key]
  exact congrArg some (decide_eq_decide.mpr mem_prK)
theorem numK_get {qs : List Pr} {kf : Pr → Nat} {q : Pr} (nd : qs.Nodup) (h : q ∈ qs) : getD_ (.dP (numK qs kf)) (prN q) = some (nD (kf q)) :=
  getP_mem (by rw [numK_key]; exact nodup_map (fun a b e => prK_inj e) nd) (List.mem_map.mpr ⟨q, h, rfl⟩)
structure NumOk (s : Say) (f : Fee) (qs : List Pr) (kf : Pr → Nat) : Prop where
  nd : qs.Nodup
  kept : ∀ q ∈ qs, s.K2 f q
  low : ∀ q ∈ qs, q.1 ≠ q.2 → ∀ ask ∈ s.A f q, ∃ a ∈ ask, a.2 ∈ qs ∧ a.1 + kf a.2 ≤ kf q
  zero : ∀ q ∈ qs, kf q = 0 → q.1 = q.2
theorem eqD_pr {a b : Pr} : eqD (prN a) (prN b) = decide (a = b) := by
  have e : eqD (prN a) (prN b) = (eqD (nD a.1) (nD b.1) && eqD (nD a.2) (nD b.2)) := by simp [eqD, toP, toPs, PyData.eqv, PyData.eqvAll]
  rw [e, eqD_nat, eqD_nat]
  by_cases h1 : a.1 = b.1 <;> by_cases h2 : a.2 = b.2 <;> simp [h1, h2, Prod.ext_iff]
end MW

end
section
set_option Elab.async false
set_option linter.all false
set_option maxRecDepth 100000
set_option pp.maxSteps 400
/-! MwR: the law's looks: bounded, together. -/
namespace MW
open PySem PySem.Spec PyProof.Rows L2
noncomputable abbrev kD (s : Say) (f : Fee) : D := .lst ((s.kepts f).map nD)
theorem steps_len6 {s : Say} (ok : s.Ok) {p : Nat → Bool} {a : Nat} : (s.steps p a).length ≤ 6 := by
  have h := steps_len (s := s) (p := p) (a := a)
  have h2 : s.signs * s.deeds ≤ 2 * 3 := Nat.mul_le_mul ok.s2 ok.d2
  omega
theorem okD_ans {l : List (Nat × Pr)} : okD 4 (.lst (l.map ansD)) = true := List.all_eq_true.mpr fun d hd => by
  obtain ⟨a, _, e⟩ := List.mem_map.mp hd
  subst e
  rfl
theorem eqD_ans {l : List (Nat × Pr)} : eqD (.lst (l.map ansD)) (.lst []) = l.isEmpty := by
  cases l <;> simp [eqD, toP, toPs, PyData.eqv, PyData.eqvAll]
theorem at_list {α : Type} {l : List α} {enc : α → D} {i : Nat} {x : α} (h : l[i]? = some x) : atI (l.map enc) ((i : Nat) : Int) = some (enc x) := atI_nat (by rw [List.getElem?_map, h]; rfl)
theorem len_map {α : Type} {l : List α} {enc : α → D} {m : Mem} : lenD (look m (.lst (l.map enc))) = some l.length := by show some (List.length _) = _; rw [List.length_map]
section
variable {P : Program} {w : World} {K : PySem.W.Frag} {mg : Str → Option Value} {base : Heap}
abbrev st__law_bounded : Stmt := topS 75
theorem sc__law_bounded : FnScope ["saying", "fees", "kept", "numbers", "pair", "step", "some", "price", "come"] ["saying", "fees", "kept", "numbers"] (defScope st__law_bounded) := ⟨rfl, rfl, rfl, by decide +kernel, rfl, by decide +kernel, by decide +kernel⟩
def sp__law_bounded : DSp := pureS 4 fun ds d => ∃ s f qs kf, Say.Ok s ∧ Fee.Ok s.deeds f ∧ NumOk s f qs kf ∧ ds = [s.enc, Fee.enc s.deeds f, kD s f, .dP (numK qs kf)] ∧ d = .bl true
theorem ok__law_bounded {f : Addr} {fd : FuncData} (F : Fun K "_law_bounded" "_law_bounded" st__law_bounded f fd) (T : Txt mg) (G__law_asks : Fd P w K mg base 1 "_law_asks" ["saying", "kept", "room"] sp__law_asks) (G__law_answered : Fd P w K mg base 4 "_law_answered" ["saying", "fees", "kept", "pair", "step"] sp__law_answered) : FnOk P w K mg base CX0 5 f fd ["saying", "fees", "kept", "numbers"] (spD K sp__law_bounded) := by
  refine fn_d F sc__law_bounded (fun _ _ _ h => h.1) fun cdv A outer s H E hr => ⟨_, (qss_cons (qs_for (vs := [4]) PassesOwn.never rfl (qi_keysP (qv 3)) (qg_name (i := 4) sc__law_bounded.nd rfl (by first | exact .inl rfl | exact .inr rfl))
 (qss_one (qs_if (qt_cmp (op_neD hr.units) liftNe (q_ix (qv 4) q_int) (q_ix (qv 4) q_int) (nomark _))
 (qss_one (qs_for (vs := [5]) PassesOwn.never rfl (qi_list (q_fd G__law_asks (hr.mono (by decide)) (by rfl) (qa_cons (qv 0) (qa_cons (qv 2) (qa_cons (q_ix (qv 4) q_int) qa_nil))))) (qg_name (i := 5) sc__law_bounded.nd rfl (by first | exact .inl rfl | exact .inr rfl))
 (qss_cons (qs_set (i := 6) sc__law_bounded.nd rfl (by first | exact .inl rfl | exact .inr rfl) (q_fd G__law_answered (hr.mono (by decide)) (by rfl) (qa_cons (qv 0) (qa_cons (qv 1) (qa_cons (qv 2) (qa_cons (qv 4) (qa_cons (qv 5) qa_nil)))))))
 (qss_one (qs_if (qt_not (qt_val (q_callB (cr_any rfl) liftAny (by rfl) T.any (by decide +kernel) (qa_cons (q_lc (own := [("price", 7), ("come", 8)]) rfl sc__law_bounded.nd (qi_list (qv 6)) (blkOk_by (by kernel_rfl)) (fun _ _ _ _ _ => (qg_tup (n := 2) rfl (qgs_cons (qg_name (i := 7) sc__law_bounded.nd rfl (by first | exact .inl rfl | exact .inr rfl)) (qgs_cons (qg_name (i := 8) sc__law_bounded.nd rfl (by first | exact .inl rfl | exact .inr rfl)) qgs_nil)))) (fun _ _ _ _ _ => qts_nil) (fun _ _ _ _ _ => (q_and (q_cmp (op_inA (hu_of hr)) (liftIn false) (qv 8) (qv 3) (by rfl)) (q_one (q_cmp op_le liftB0 (q_op op_add liftI0 (qv 7) (q_dget (hu_of hr) (qv 3) (qv 8))) (q_dget (hu_of hr) (qv 3) (qv 4)) (nomark _)))))) qa_nil))))
 (qss_one (qs_ret q_bl))
 qss_nil)))))
 qss_nil)))
 (qss_one (qs_ret q_bl))), fun ds m Kd h => ?_⟩
  obtain ⟨_, _, ⟨z, fe, qs, kf, ok, fo, N, rfl, rfl⟩, h⟩ := h
  have hG := goodAt_keptL z fe
  refine ⟨_, rfl, _, rfl, ?_⟩
  unfold numK
  rw [List.map_map]
  refine for_T (ys := qs) (enc := prN) (fun i δ m' => m' = m ∧ ∃ x4 x5 x6 x7 x8, δ = [some z.enc, some (Fee.enc z.deeds fe), some (kD z fe), some (.dP (numK qs kf)), x4, x5, x6, x7, x8]) ⟨rfl, _, _, _, _, _, rfl⟩ ?_ ?_
  · rintro i q δ m' hy ⟨rfl, x4, x5, x6, x7, x8, rfl⟩
    have hq := List.mem_of_getElem? hy
    have k2 := N.kept q hq
    refine ⟨_, rfl, _, _, nD q.1, rfl, rfl, rfl, _, rfl, _, _, nD q.2, rfl, rfl, rfl, rfl, rfl, _, rfl, fun e => ?_, fun _ => ⟨rfl, _, _, _, _, _, rfl⟩⟩
    have hne : q.1 ≠ q.2 := by
      have e : (!eqD (.int (q.1 : Nat)) (.int (q.2 : Nat))) = true := e
      rw [eqD_nat] at e
      simpa using e
    refine ⟨_, rfl, _, rfl, _, rfl, _, _, nD q.1, rfl, rfl, rfl, rfl, _, ⟨z, _, _, q.1, ok, hG, k2.1.lt, rfl, rfl⟩, _, rfl, ?_⟩
    refine for_T (ys := z.steps (z.keptB fe) q.1) (enc := prN) (fun j δ m'' => m'' = m' ∧ ∃ x5 x6 x7 x8, δ = [some z.enc, some (Fee.enc z.deeds fe), some (kD z fe), some (.dP (numK qs kf)), some (prN q), x5, x6, x7, x8]) ⟨rfl, _, _, _, _, rfl⟩ ?_ ?_
    · rintro j st δ m'' hst ⟨rfl, y5, y6, y7, y8, rfl⟩
      have hstm := List.mem_of_getElem? hst
      obtain ⟨g1, g2, g3⟩ := steps_mem.mp hstm
      refine ⟨_, rfl, _, rfl, _, rfl, _, rfl, _, rfl, rfl, _, ⟨z, fe, _, q, st, ok, fo, hG, k2.1.lt, k2.2.lt, g1, g2, g3, rfl, rfl⟩, ?_⟩
      have ham : z.anss fe (z.keptB fe) q st ∈ z.A fe q := by rw [asks_unlike hne]; exact List.mem_map.mpr ⟨st, hstm, rfl⟩
      have hl := ask_len ok ham
      refine ⟨_, rfl, _, rfl, ?_⟩
      refine lc_map (ys := z.anss fe (z.keptB fe) q st) (enc := ansD) (g := fun a => .bl (decide (a.2 ∈ qs) && decide (a.1 + kf a.2 ≤ kf q))) (sz_of (by omega)) (fun a ha m2 Q Nn sm hQ => ⟨_, rfl, rfl, _, _, rfl, _, _, rfl, rfl, fun _ => ⟨_, rfl, _, rfl, _, numK_mem, _, rfl, fun e1 => ?_, fun e1 => ?_⟩, nofun⟩) ?_
      · have e1 : decide (a.2 ∈ qs) = true := e1
        have hin := of_decide_eq_true e1
        rw [e1, Bool.true_and] at hQ
        refine ⟨_, rfl, _, rfl, _, rfl, nD (kf a.2), numK_get N.nd hin, _, _, rfl, rfl, _, rfl, _, rfl, nD (kf q), numK_get N.nd hq, _, _, rfl, rfl, ?_⟩
        have e2 : decide (((a.1 : Nat) : Int) + (kf a.2 : Nat) ≤ (kf q : Nat)) = decide (a.1 + kf a.2 ≤ kf q) := decide_eq_decide.mpr (by omega)
        rw [← e2] at hQ
        exact hQ
      · have e1 : decide (a.2 ∈ qs) = false := e1
        rw [e1, Bool.false_and] at hQ
        exact hQ
      · refine ⟨_, (z.anss fe (z.keptB fe) q st).map fun a => decide (a.2 ∈ qs) && decide (a.1 + kf a.2 ≤ kf q), rfl, bls (p := fun a : Nat × Pr => decide (a.2 ∈ qs) && decide (a.1 + kf a.2 ≤ kf q)), ?_⟩
        obtain ⟨a, ha, a1, a2⟩ := N.low q hq hne _ ham
        have : ((z.anss fe (z.keptB fe) q st).map fun a => decide (a.2 ∈ qs) && decide (a.1 + kf a.2 ≤ kf q)).any id = true := List.any_eq_true.mpr ⟨true, List.mem_map.mpr ⟨a, ha, by rw [decT a1, decT a2]; rfl⟩, rfl⟩
        rw [this]
        exact ⟨_, rfl, nofun, fun _ => ⟨rfl, _, _, _, _, rfl⟩⟩
    · rintro δ m'' ⟨rfl, y5, y6, y7, y8, rfl⟩
      exact ⟨rfl, _, _, _, _, _, rfl⟩
  · rintro δ m' ⟨rfl, x4, x5, x6, x7, x8, rfl⟩
    exact ⟨_, SubM.refl _, h⟩

abbrev st__law_together : Stmt := topS 76
theorem sc__law_together : FnScope ["pot", "saying", "fees", "kept", "numbers", "pair", "left", "turn", "asks", "step", "some", "fine", "price", "one"] ["pot", "saying", "fees", "kept", "numbers", "pair"] (defScope st__law_together) := ⟨rfl, rfl, rfl, by decide +kernel, rfl, by decide +kernel, by decide +kernel⟩
def sp__law_together : DSp := fun ds m Kd => ds.length = 6 ∧ ∃ p s f qs kf q c, Say.Ok s ∧ Fee.Ok s.deeds f ∧ NumOk s f qs kf ∧ q ∈ qs ∧ kf q ≤ 4000 ∧ c ≤ 700000000 ∧ Pot m p c ∧ ds = [.ref p, s.enc, Fee.enc s.deeds f, kD s f, .dP (numK qs kf), prN q] ∧ ∀ m', PotS m m' p (c + 8002) → Kd (.bl true) m'
theorem ok__law_together {f : Addr} {fd : FuncData} (F : Fun K "_law_together" "_law_together" st__law_together f fd) (T : Txt mg) (G__law_asks : Fd P w K mg base 1 "_law_asks" ["saying", "kept", "room"] sp__law_asks) (G__law_answered : Fd P w K mg base 4 "_law_answered" ["saying", "fees", "kept", "pair", "step"] sp__law_answered) (G__law_take : Fd P w K mg base 1 "_law_take" ["pot", "many"] sp__law_take) : FnOk P w K mg base CX0 5 f fd ["pot", "saying", "fees", "kept", "numbers", "pair"] (spD K sp__law_together) := by
  refine fn_d F sc__law_together (fun _ _ _ h => h.1) fun cdv A outer s H E hr => ⟨_, (qss_cons (qs_set (i := 6) sc__law_together.nd rfl (by first | exact .inl rfl | exact .inr rfl) (q_dget (hu_of hr) (qv 4) (qv 5)))
 (qss_cons (qs_for (vs := [7]) PassesOwn.never rfl (qi_range (by rfl) T.rng (qa_cons (q_op op_add liftI0 (qv 6) q_int) qa_nil)) (qg_name (i := 7) sc__law_together.nd rfl (by first | exact .inl rfl | exact .inr rfl))
 (qss_cons (qs_if (qt_cmp (op_eqD hr.units) liftEq (q_ix (qv 5) q_int) (q_ix (qv 5) q_int) (nomark _))
 (qss_one (qs_ret q_bl))
 qss_nil)
 (qss_cons (qs_set (i := 8) sc__law_together.nd rfl (by first | exact .inl rfl | exact .inr rfl) (q_fd G__law_asks (hr.mono (by decide)) (by rfl) (qa_cons (qv 1) (qa_cons (qv 3) (qa_cons (q_ix (qv 5) q_int) qa_nil)))))
 (qss_cons (qs_set (i := 9) sc__law_together.nd rfl (by first | exact .inl rfl | exact .inr rfl) (q_ix (qv 8) (q_fd G__law_take (hr.mono (by decide)) (by rfl) (qa_cons (qv 0) (qa_cons (q_callB call_lenA liftLen (by rfl) T.len (by decide +kernel) (qa_cons (qv 8) qa_nil)) qa_nil)))))
 (qss_cons (qs_set (i := 10) sc__law_together.nd rfl (by first | exact .inl rfl | exact .inr rfl) (q_fd G__law_answered (hr.mono (by decide)) (by rfl) (qa_cons (qv 1) (qa_cons (qv 2) (qa_cons (qv 3) (qa_cons (qv 5) (qa_cons (qv 9) qa_nil)))))))
 (qss_cons (qs_setLc (i := 11) (own := [("one", 13)]) rfl sc__law_together.nd rfl rfl (sw_true rfl rfl rfl (by decide +kernel)) (qi_list (qv 10)) (blkOk_by (by kernel_rfl)) (fun _ _ _ _ _ => (qg_name (i := 13) sc__law_together.nd rfl (by first | exact .inl rfl | exact .inr rfl))) (fun _ _ _ _ _ => (qts_one (PW.pt (qw_and (qt_cmp (op_inA (hu_of hr)) (liftIn false) (q_ix (qv 13) q_int) (qv 4) (by rfl)) (qw_and1 (qt_cmp op_le liftB0 (q_op op_add liftI0 (q_ix (qv 13) q_int) (q_dget (hu_of hr) (qv 4) (q_ix (qv 13) q_int))) (qv 6) (nomark _))))))) (fun _ _ _ _ _ => (qv 13)))
 (qss_cons (qs_if (qt_cmp (op_eqD hr.units) liftEq (qv 11) (q_lst qa_nil) (nomark _))
 (qss_one (qs_ret q_bl))
 qss_nil)
 (qss_cons (qs_asg (vs := [12, 5]) (q_ix (qv 11) (q_fd G__law_take (hr.mono (by decide)) (by rfl) (qa_cons (qv 0) (qa_cons (q_callB call_lenA liftLen (by rfl) T.len (by decide +kernel) (qa_cons (qv 11) qa_nil)) qa_nil)))) (qg_tup (n := 2) rfl (qgs_cons (qg_name (i := 12) sc__law_together.nd rfl (by first | exact .inl rfl | exact .inr rfl)) (qgs_cons (qg_name (i := 5) sc__law_together.nd rfl (by first | exact .inl rfl | exact .inr rfl)) qgs_nil))))
 (qss_one (qs_set (i := 6) sc__law_together.nd rfl (by first | exact .inl rfl | exact .inr rfl) (q_op op_sub liftI0 (qv 6) (qv 12))))))))))))
 (qss_one (qs_ret q_bl)))), fun ds m Kd h => ?_⟩
  obtain ⟨_, p, z, fe, qs, kf, q0, c, ok, fo, N, hq0, hk4, hc, hp, rfl, h⟩ := h
  have hG := goodAt_keptL z fe
  refine ⟨_, rfl, _, rfl, _, numK_get N.nd hq0, ?_⟩
  have eL : (((kf q0 : Nat) : Int) + 1) = ((kf q0 + 1 : Nat) : Int) := by omega
  refine ⟨_, rfl, _, _, rfl, rfl, ((kf q0 + 1 : Nat) : Int), congrArg (fun z => [D.int z]) eL, by omega, by omega, ?_⟩
  rw [rg0, Int.toNat_natCast]
  refine for_T (fun i δ m' => ∃ (q : Pr) (k : Nat) (x7 x8 x9 x10 x11 x12 x13 : Option D), δ = [some (.ref p), some z.enc, some (Fee.enc z.deeds fe), some (kD z fe), some (.dP (numK qs kf)), some (prN q), some (nD k), x7, x8, x9, x10, x11, x12, x13] ∧ q ∈ qs ∧ kf q ≤ k ∧ k + i ≤ kf q0 ∧ PotS m m' p (c + 2 * i)) ⟨q0, kf q0, _, _, _, _, _, _, _, rfl, hq0, Nat.le_refl _, Nat.le_refl _, by simpa using hp.refl⟩ ?_ ?_
  · rintro i y δ m' hy ⟨q, k, x7, x8, x9, x10, x11, x12, x13, rfl, hq, hkq, hki, hs⟩
    obtain ⟨rfl, hi⟩ := range_get hy
    have k2 := N.kept q hq
    refine ⟨_, rfl, _, _, nD q.1, rfl, rfl, rfl, _, rfl, _, _, nD q.2, rfl, rfl, rfl, rfl, rfl, _, rfl, fun e => ?_, fun e => ?_⟩
    · exact ⟨_, SubM.refl _, h m' (hs.mono (by omega))⟩
    · have hne : q.1 ≠ q.2 := by
        have e : eqD (.int (q.1 : Nat)) (.int (q.2 : Nat)) = false := e
        rw [eqD_nat] at e
        exact of_decide_eq_false e
      have hk1 : 1 ≤ kf q := by
        rcases Nat.eq_zero_or_pos (kf q) with c1 | c1
        · exact absurd (N.zero q hq c1) hne
        · exact c1
      have sne : 1 ≤ (z.steps (z.keptB fe) q.1).length := List.length_pos_iff.mpr (steps_ne ok k2.1)
      have s6 := steps_len6 ok (p := z.keptB fe) (a := q.1)
      refine ⟨_, rfl, _, rfl, _, rfl, _, _, nD q.1, rfl, rfl, rfl, rfl, _, ⟨z, _, _, q.1, ok, hG, k2.1.lt, rfl, rfl⟩, ?_⟩
      refine ⟨_, rfl, _, rfl, _, rfl, _, _, rfl, len_map, rfl, p, (z.steps (z.keptB fe) q.1).length, c + 2 * y, rfl, sne, by omega, by omega, hs.pot, fun r m1 hr1 hs1 => ?_⟩
      have est : (z.steps (z.keptB fe) q.1)[r]? = some (z.steps (z.keptB fe) q.1)[r] := List.getElem?_eq_getElem hr1
      generalize (z.steps (z.keptB fe) q.1)[r] = st at est
      have hstm := List.mem_of_getElem? est
      obtain ⟨g1, g2, g3⟩ := steps_mem.mp hstm
      refine ⟨_, _, prN st, rfl, rfl, at_list est, ?_⟩
      refine ⟨_, rfl, _, rfl, _, rfl, _, rfl, _, rfl, rfl, _, ⟨z, fe, _, q, st, ok, fo, hG, k2.1.lt, k2.2.lt, g1, g2, g3, rfl, rfl⟩, ?_⟩
      have ham : z.anss fe (z.keptB fe) q st ∈ z.A fe q := by rw [asks_unlike hne]; exact List.mem_map.mpr ⟨st, hstm, rfl⟩
      have hl := ask_len ok ham
      refine ⟨(by show 11 < 14; decide), _, rfl, _, rfl, ?_⟩
      refine lc_filt (ys := z.anss fe (z.keptB fe) q st) (enc := ansD) (p := fun a => decide (a.2 ∈ qs) && decide (a.1 + kf a.2 ≤ k)) (g := ansD) (sz_of (by omega)) (fun a ha m2 Q Nn sm hQ hN => ?_) ?_
      · refine ⟨_, rfl, _, _, prN a.2, rfl, rfl, rfl, _, rfl, _, numK_mem, _, rfl, fun e1 => ?_, fun e1 => ?_⟩
        · have e1 : decide (a.2 ∈ qs) = true := e1
          have hin := of_decide_eq_true e1
          rw [e1] at hQ hN
          refine ⟨_, rfl, _, _, nD a.1, rfl, rfl, rfl, _, rfl, _, rfl, _, _, prN a.2, rfl, rfl, rfl, nD (kf a.2), numK_get N.nd hin, _, _, rfl, rfl, _, rfl, _, _, rfl, rfl, _, rfl, fun e2 => ⟨_, rfl, hQ ?_⟩, fun e2 => hN ?_⟩
          · have := of_decide_eq_true e2
            rw [Bool.true_and]
            exact decT (by omega)
          · have := of_decide_eq_false e2
            rw [Bool.true_and]
            exact decF (by omega)
        · have e1 : decide (a.2 ∈ qs) = false := e1
          refine ⟨nofun, fun _ => hN ?_⟩
          rw [e1]
          rfl
      · obtain ⟨a, ha, a1, a2⟩ := N.low q hq hne _ ham
        have hfm : ∀ b ∈ (z.anss fe (z.keptB fe) q st).filter (fun a => decide (a.2 ∈ qs) && decide (a.1 + kf a.2 ≤ k)), b ∈ z.anss fe (z.keptB fe) q st ∧ b.2 ∈ qs ∧ b.1 + kf b.2 ≤ k := fun b hb => by
          obtain ⟨b1, b2⟩ := List.mem_filter.mp hb
          rw [Bool.and_eq_true] at b2
          exact ⟨b1, of_decide_eq_true b2.1, of_decide_eq_true b2.2⟩
        have hain : a ∈ (z.anss fe (z.keptB fe) q st).filter (fun a => decide (a.2 ∈ qs) && decide (a.1 + kf a.2 ≤ k)) := List.mem_filter.mpr ⟨ha, by rw [decT a1, decT (show a.1 + kf a.2 ≤ k by omega)]; rfl⟩
        have hfl : ((z.anss fe (z.keptB fe) q st).filter (fun a => decide (a.2 ∈ qs) && decide (a.1 + kf a.2 ≤ k))).length ≤ 3 := Nat.le_trans (List.length_filter_le _ _) hl
        generalize (z.anss fe (z.keptB fe) q st).filter (fun a => decide (a.2 ∈ qs) && decide (a.1 + kf a.2 ≤ k)) = fine at hfm hain hfl
        have f1 : 1 ≤ fine.length := List.length_pos_of_mem hain
        refine ⟨_, rfl, Nat.zero_le _, okD_ans, rfl, _, rfl, fun e1 => ?_, fun _ => ?_⟩
        · rw [eqD_ans] at e1
          rw [List.isEmpty_iff] at e1
          rw [e1] at f1
          cases f1
        · refine ⟨_, rfl, _, rfl, _, rfl, _, _, rfl, len_map, rfl, p, fine.length, c + 2 * y + 1, rfl, f1, by omega, by omega, hs1.pot, fun r2 m2 hr2 hs2 => ?_⟩
          have ef : fine[r2]? = some fine[r2] := List.getElem?_eq_getElem hr2
          generalize fine[r2] = b at ef
          have hb := hfm b (List.mem_of_getElem? ef)
          have hb1 := anss_pos hb.1
          refine ⟨_, _, ansD b, rfl, rfl, at_list ef, [nD b.1, prN b.2], rfl, rfl, _, _, rfl, _, _, rfl, rfl, ?_⟩
          have ek : (((k : Nat) : Int) - (b.1 : Nat)) = ((k - b.1 : Nat) : Int) := by omega
          exact ⟨_, rfl, _, rfl, _, _, rfl, rfl, b.2, k - b.1, _, _, _, _, _, _, _, congrArg (fun v => [some (D.ref p), some z.enc, some (Fee.enc z.deeds fe), some (kD z fe), some (D.dP (numK qs kf)), some (prN b.2), some (D.int v), _, _, _, _, _, _, _]) ek, hb.2.1, by omega, by omega, ((hs.trans hs1).trans hs2).mono (by omega)⟩
  · rintro δ m' ⟨q, k, x7, x8, x9, x10, x11, x12, x13, rfl, hq, hkq, hki, hs⟩
    rw [List.length_range] at hki
    omega
end
end MW

end
section
set_option Elab.async false
set_option linter.all false
set_option maxRecDepth 100000
set_option pp.maxSteps 400
/-! MwS: the law's looks: pays, never. -/
namespace MW
open PySem PySem.Spec PyProof.Rows L2
section
variable {P : Program} {w : World} {K : PySem.W.Frag} {mg : Str → Option Value} {base : Heap}
/-- an ask of the numbered game is a step of the rooms -/
theorem num_step {s : Say} {f : Fee} {q0 q : Pr} {ps : List Pr} (P : Places s f q0 ps) {i j : Nat} (h : ps[i]? = some q) (hne : q.1 ≠ q.2) {ask : Ask} (ha : ((s.num f ps).getD i [])[j]? = some ask) :
    ∃ st, (s.steps (s.keptB f) q.1)[j]? = some st ∧ ask = idxAsk ps (s.anss f (s.keptB f) q st) ∧ s.anss f (s.keptB f) q st ∈ s.A f q := by
  rw [num_at h, asks_unlike hne, List.getElem?_map, List.getElem?_map] at ha
  cases e : (s.steps (s.keptB f) q.1)[j]? with
  | none => rw [e] at ha; cases ha
  | some st =>
    rw [e] at ha
    exact ⟨st, rfl, (Option.some.inj ha).symm, by rw [asks_unlike hne]; exact List.mem_map.mpr ⟨st, List.mem_of_getElem? e, rfl⟩⟩
theorem idx_first {ps : List Pr} {b : Pr} (nd : ps.Nodup) : ∀ (i : Nat) (z' : D), i < ps.idxOf b → (ps.map prN)[i]? = some z' → eqD z' (prN b) = false := fun i z' hi hz => by
  rw [List.getElem?_map] at hz
  cases e : ps[i]? with
  | none => rw [e] at hz; cases hz
  | some q =>
    rw [e] at hz
    have hz := Option.some.inj hz
    subst hz
    rw [eqD_pr]
    refine decF fun z => ?_
    subst z
    have := idx_at nd e
    omega
theorem okD_prs {ps : List Pr} : (ps.map prN).all (okD 4) = true := List.all_eq_true.mpr fun d hd => by
  obtain ⟨a, _, e⟩ := List.mem_map.mp hd
  subst e
  rfl
abbrev st__law_pays : Stmt := topS 77
theorem sc__law_pays : FnScope ["pot", "saying", "fees", "kept", "places", "rows", "total", "by_spot", "at", "owed", "turn", "step", "some", "price", "come", "row"] ["pot", "saying", "fees", "kept", "places", "rows", "total"] (defScope st__law_pays) := ⟨rfl, rfl, rfl, by decide +kernel, rfl, by decide +kernel, by decide +kernel⟩
def sp__law_pays : DSp := fun ds m Kd => ds.length = 7 ∧ ∃ p s f q0 ps R T c, Say.Ok s ∧ Fee.Ok s.deeds f ∧ Places s f q0 ps ∧ LstOk (s.num f ps) T R ∧ c ≤ 700000000 ∧ Pot m p c ∧ ds = [.ref p, s.enc, Fee.enc s.deeds f, kD s f, .lst (ps.map prN), .tup (R.map r4), nD T] ∧ ∀ m', PotS m m' p (c + 144040) → Kd (.bl true) m'
theorem ok__law_pays {f : Addr} {fd : FuncData} (F : Fun K "_law_pays" "_law_pays" st__law_pays f fd) (T : Txt mg) (G__law_answered : Fd P w K mg base 4 "_law_answered" ["saying", "fees", "kept", "pair", "step"] sp__law_answered) (G__law_asks : Fd P w K mg base 1 "_law_asks" ["saying", "kept", "room"] sp__law_asks) (G__law_take : Fd P w K mg base 1 "_law_take" ["pot", "many"] sp__law_take) : FnOk P w K mg base CX0 5 f fd ["pot", "saying", "fees", "kept", "places", "rows", "total"] (spD K sp__law_pays) := by
  refine fn_d F sc__law_pays (fun _ _ _ h => h.1) fun cdv A outer s H E hr => ⟨_, (qss_cons (qs_set (i := 7) sc__law_pays.nd rfl (by first | exact .inl rfl | exact .inr rfl) (q_callTy (callR_frz (call_dictPT rfl (hu65 hr))) liftDcP (by rfl) T.dict (by decide +kernel) (qa_cons (q_lc (own := [("row", 15)]) rfl sc__law_pays.nd (qi_tup (qv 5)) (blkOk_by (by kernel_rfl)) (fun _ _ _ _ _ => (qg_name (i := 15) sc__law_pays.nd rfl (by first | exact .inl rfl | exact .inr rfl))) (fun _ _ _ _ _ => qts_nil) (fun _ _ _ _ _ => (q_tup (qa_cons (q_tup (qa_cons (q_ix (qv 15) q_int) (qa_cons (q_ix (qv 15) q_int) qa_nil))) (qa_cons (q_drop (qv 15)) qa_nil))))) qa_nil)))
 (qss_cons (qs_set (i := 8) sc__law_pays.nd rfl (by first | exact .inl rfl | exact .inr rfl) q_int)
 (qss_cons (qs_set (i := 9) sc__law_pays.nd rfl (by first | exact .inl rfl | exact .inr rfl) (qv 6))
 (qss_cons (qs_for (vs := [10]) PassesOwn.never rfl (qi_range (by rfl) T.rng (qa_cons (q_op op_add liftI0 (q_callB call_lenA liftLen (by rfl) T.len (by decide +kernel) (qa_cons (qv 5) qa_nil)) q_int) qa_nil)) (qg_name (i := 10) sc__law_pays.nd rfl (by first | exact .inl rfl | exact .inr rfl))
 (qss_cons (qs_if (qt_cmp op_le liftB0 (qv 9) q_int (nomark _))
 (qss_one (qs_ret q_bl))
 qss_nil)
 (qss_cons (qs_if (PW.pt (qw_or (qt_cmp (op_notInA (hu_of hr)) (liftIn true) (q_tup (qa_cons (qv 8) (qa_cons (qv 9) qa_nil))) (qv 7) (by rfl)) (qw_or1 (qt_cmp (op_eqD hr.units) liftEq (q_ix (q_ix (qv 4) (qv 8)) q_int) (q_ix (q_ix (qv 4) (qv 8)) q_int) (nomark _)))))
 (qss_one (qs_ret q_bl))
 qss_nil)
 (qss_cons (qs_set (i := 11) sc__law_pays.nd rfl (by first | exact .inl rfl | exact .inr rfl) (q_ix (q_fd G__law_asks (hr.mono (by decide)) (by rfl) (qa_cons (qv 1) (qa_cons (qv 3) (qa_cons (q_ix (q_ix (qv 4) (qv 8)) q_int) qa_nil)))) (q_ix (q_dget (hu_of hr) (qv 7) (q_tup (qa_cons (qv 8) (qa_cons (qv 9) qa_nil)))) q_int)))
 (qss_cons (qs_set (i := 12) sc__law_pays.nd rfl (by first | exact .inl rfl | exact .inr rfl) (q_fd G__law_answered (hr.mono (by decide)) (by rfl) (qa_cons (qv 1) (qa_cons (qv 2) (qa_cons (qv 3) (qa_cons (q_ix (qv 4) (qv 8)) (qa_cons (qv 11) qa_nil)))))))
 (qss_cons (qs_asg (vs := [13, 14]) (q_ix (qv 12) (q_fd G__law_take (hr.mono (by decide)) (by rfl) (qa_cons (qv 0) (qa_cons (q_callB call_lenA liftLen (by rfl) T.len (by decide +kernel) (qa_cons (qv 12) qa_nil)) qa_nil)))) (qg_tup (n := 2) rfl (qgs_cons (qg_name (i := 13) sc__law_pays.nd rfl (by first | exact .inl rfl | exact .inr rfl)) (qgs_cons (qg_name (i := 14) sc__law_pays.nd rfl (by first | exact .inl rfl | exact .inr rfl)) qgs_nil))))
 (qss_cons (qs_set (i := 8) sc__law_pays.nd rfl (by first | exact .inl rfl | exact .inr rfl) (q_index (hu65 hr) (qv 4) (qa_cons (qv 14) qa_nil)))
 (qss_one (qs_set (i := 9) sc__law_pays.nd rfl (by first | exact .inl rfl | exact .inr rfl) (q_op op_sub liftI0 (qv 9) (qv 13)))))))))))
 (qss_one (qs_ret q_bl)))))), fun ds m Kd h => ?_⟩
  obtain ⟨_, p, z, fe, q0, ps, R, T, c, ok, fo, PL, LO, hc, hp, rfl, h⟩ := h
  have hG := goodAt_keptL z fe
  have z2 : 2 ≤ sizeLine := sz_of (by decide)
  have hR := LO.len
  refine ⟨_, rfl, _, rfl, ?_⟩
  refine lc_map (ys := R) (enc := r4) (g := fun e => .tup [prD (prK e.1), prN e.2]) (by rw [sizeLine_eq]; omega) (fun e he m2 Q N sm hq => ⟨fun _ => ?_, nofun⟩) ?_
  · exact ⟨_, rfl, _, _, nD e.1.1, rfl, rfl, rfl, _, rfl, _, _, nD e.1.2, rfl, rfl, rfl, z2, _, rfl, _, rfl, (by show 2 ≤ 4; decide), (by decide), z2, hq⟩
  have lkR : look m (.lst (R.map fun e => .tup [prD (prK e.1), prN e.2])) = .lst ((fD R).map fun p => .tup [prD p.1, p.2]) := by
    show D.lst _ = D.lst _
    unfold fD
    rw [List.map_map]
    rfl
  have ndR : (keyP (fD R)).Nodup := by rw [fD_key]; exact nodup_map (fun a b e => prK_inj e) LO.nd
  refine ⟨_, fD R, rfl, lkR, ndR, ?_⟩
  have eL : (((R.length : Nat) : Int) + 1) = ((R.length + 1 : Nat) : Int) := by omega
  refine ⟨_, rfl, _, rfl, _, _, rfl, (by show some (List.length _) = _; rw [List.length_map]), _, _, rfl, rfl, ((R.length + 1 : Nat) : Int), congrArg (fun z => [D.int z]) eL, by omega, by omega, ?_⟩
  rw [rg0, Int.toNat_natCast]
  have p0 : 0 < ps.length := (List.getElem?_eq_some_iff.mp PL.hd).1
  refine for_T (fun i δ m' => ∃ (at0 : Nat) (ow : Int) (x10 x11 x12 x13 x14 x15 : Option D), δ = [some (.ref p), some z.enc, some (Fee.enc z.deeds fe), some (kD z fe), some (.lst (ps.map prN)), some (.tup (R.map r4)), some (nD T), some (.dP (fD R)), some (nD at0), some (.int ow), x10, x11, x12, x13, x14, x15] ∧ at0 < ps.length ∧ (ow ≤ 0 ∨ ∃ o : Nat, ow = (o : Nat) ∧ (at0, o) ∈ keyR R) ∧ i + (R.filter fun e => decide (((e.1.2 : Nat) : Int) ≤ ow)).length ≤ R.length ∧ PotS m m' p (c + i))
    ⟨0, ((T : Nat) : Int), _, _, _, _, _, _, rfl, p0, ?_, ?_, hp.refl⟩ ?_ ?_
  · rcases Nat.eq_zero_or_pos T with c1 | c1
    · exact .inl (by omega)
    · exact .inr ⟨T, rfl, LO.root c1⟩
  · have := List.length_filter_le (fun e : Row => decide (((e.1.2 : Nat) : Int) ≤ ((T : Nat) : Int))) R
    omega
  · rintro i y δ m' hy ⟨at0, ow, x10, x11, x12, x13, x14, x15, rfl, hat, how, hcnt, hs⟩
    obtain ⟨rfl, hi⟩ := range_get hy
    refine ⟨_, rfl, _, _, rfl, rfl, _, rfl, fun e => ⟨_, SubM.refl _, h m' (hs.mono (by omega))⟩, fun e => ?_⟩
    have e : ¬ ow ≤ 0 := of_decide_eq_false e
    rcases how with how | ⟨o, rfl, hkey⟩
    · exact absurd how e
    obtain ⟨en, hen, hek⟩ := List.mem_map.mp hkey
    obtain ⟨r1, r2, r3, ask, r4', r5⟩ := LO.row en hen
    have en1 : en.1.1 = at0 := congrArg Prod.fst hek
    have en2 : en.1.2 = o := congrArg Prod.snd hek
    rw [en1] at r3 r4'
    rw [en2] at r2 r5
    have eq0 : ps[at0]? = some ps[at0] := List.getElem?_eq_getElem hat
    generalize ps[at0] = q at eq0
    have hne : q.1 ≠ q.2 := by
      rw [num_met PL eq0] at r3
      exact of_decide_eq_false r3
    have k2 := PL.kept q (List.mem_of_getElem? eq0)
    obtain ⟨st, est, rfl, ham⟩ := num_step PL eq0 hne r4'
    have hstm := List.mem_of_getElem? est
    obtain ⟨g1, g2, g3⟩ := steps_mem.mp hstm
    have md : memD (.dP (fD R)) (prN (at0, o)) = some true := by
      have : memD (.dP (fD R)) (prN (at0, o)) = some (decide ((at0, o) ∈ keyR R)) := congrArg some fD_mem
      rw [this, decT hkey]
    have gd : getD_ (.dP (fD R)) (prN (at0, o)) = some (prN en.2) := getP_mem ndR (List.mem_map.mpr ⟨en, hen, by rw [hek]⟩)
    have hl := ask_len ok ham
    have hl1 : 1 ≤ (z.anss fe (z.keptB fe) q st).length := by
      unfold Say.anss
      rw [List.length_map]
      exact List.length_pos_iff.mpr (held_keeps k2.2 g1 g2)
    refine ⟨_, rfl, _, rfl, z2, _, rfl, _, md, _, rfl, nofun, fun _ => ?_⟩
    refine ⟨_, rfl, _, rfl, _, _, prN q, rfl, rfl, at_list eq0, _, _, nD q.1, rfl, rfl, rfl, _, rfl, _, rfl, _, _, prN q, rfl, rfl, at_list eq0, _, _, nD q.2, rfl, rfl, rfl, rfl, rfl, _, rfl, fun e2 => ?_, fun _ => ?_⟩
    · rw [eqD_nat] at e2
      exact absurd (of_decide_eq_true e2) hne
    refine ⟨_, rfl, _, rfl, _, rfl, _, rfl, _, _, prN q, rfl, rfl, at_list eq0, _, _, nD q.1, rfl, rfl, rfl, rfl, _, ⟨z, _, _, q.1, ok, hG, k2.1.lt, rfl, rfl⟩, _, rfl, _, rfl, _, rfl, z2, _, gd, _, _, nD en.2.1, rfl, rfl, rfl, _, _, prN st, rfl, rfl, at_list est, ?_⟩
    refine ⟨_, rfl, _, rfl, _, rfl, _, rfl, _, rfl, _, _, prN q, rfl, rfl, at_list eq0, _, rfl, rfl, _, ⟨z, fe, _, q, st, ok, fo, hG, k2.1.lt, k2.2.lt, g1, g2, g3, rfl, rfl⟩, ?_⟩
    refine ⟨_, rfl, _, rfl, _, rfl, _, _, rfl, len_map, rfl, p, _, c + y, rfl, hl1, by omega, by omega, hs.pot, fun r m1 hr1 hs1 => ?_⟩
    have eb : (z.anss fe (z.keptB fe) q st)[r]? = some (z.anss fe (z.keptB fe) q st)[r] := List.getElem?_eq_getElem hr1
    generalize (z.anss fe (z.keptB fe) q st)[r] = b at eb
    have hbm := List.mem_of_getElem? eb
    have hb1 := anss_pos hbm
    have hbp := PL.closed q (List.mem_of_getElem? eq0) _ ham b hbm
    refine ⟨_, _, ansD b, rfl, rfl, at_list eb, [nD b.1, prN b.2], rfl, rfl, _, _, rfl, _, _, rfl, rfl, ?_⟩
    refine ⟨_, rfl, _, rfl, _, rfl, _, _, ps.idxOf b.2, prN b.2, rfl, rfl, okD_prs, rfl, by rw [List.getElem?_map, at_idx hbp]; rfl, by rw [eqD_pr]; exact decT rfl, idx_first PL.nd, ?_⟩
    refine ⟨_, rfl, _, rfl, _, _, rfl, rfl, ps.idxOf b.2, ((o : Nat) : Int) - ((b.1 : Nat) : Int), _, _, _, _, _, _, rfl, List.idxOf_lt_length_of_mem hbp, ?_, ?_, (hs.trans hs1).mono (by omega)⟩
    · by_cases hbo : b.1 < o
      · refine .inr ⟨o - b.1, by omega, r5 (b.1, ps.idxOf b.2) (List.mem_map.mpr ⟨b, hbm, rfl⟩) hbo⟩
      · exact .inl (by omega)
    · have hlt : (R.filter fun e => decide (((e.1.2 : Nat) : Int) ≤ ((o : Nat) : Int) - ((b.1 : Nat) : Int))).length < (R.filter fun e => decide (((e.1.2 : Nat) : Int) ≤ ((o : Nat) : Int))).length := by
        have e1 : (R.filter fun e => decide (((e.1.2 : Nat) : Int) ≤ ((o : Nat) : Int) - ((b.1 : Nat) : Int))) = (R.filter fun e => decide (((e.1.2 : Nat) : Int) ≤ ((o : Nat) : Int))).filter fun e => decide (((e.1.2 : Nat) : Int) ≤ ((o : Nat) : Int) - ((b.1 : Nat) : Int)) := by
          rw [List.filter_filter]
          refine List.filter_congr fun e _ => ?_
          by_cases c1 : ((e.1.2 : Nat) : Int) ≤ ((o : Nat) : Int) - ((b.1 : Nat) : Int)
          · rw [decT c1, decT (show ((e.1.2 : Nat) : Int) ≤ ((o : Nat) : Int) by omega)]; rfl
          · rw [decF c1]; rfl
        rw [e1]
        refine List.length_filter_lt_length_iff_exists.mpr ⟨en, List.mem_filter.mpr ⟨hen, decT (by rw [en2]; omega)⟩, ?_⟩
        rw [en2, decF (by omega)]
        exact Bool.false_ne_true
      omega
  · rintro δ m' ⟨at0, ow, x10, x11, x12, x13, x14, x15, rfl, hat, how, hcnt, hs⟩
    rw [List.length_range] at hcnt
    omega
end
end MW

end
section
set_option Elab.async false
set_option linter.all false
set_option maxRecDepth 100000
set_option pp.maxSteps 400
/-! MwU: the law's looks: never. -/
namespace MW
open PySem PySem.Spec PyProof.Rows L2
theorem getI_mem : ∀ {kvs : List (Int × D)} {k : Int} {d : D}, (keyI kvs).Nodup → (k, d) ∈ kvs → getI kvs k = some d
  | x :: l, k, d, nd, h => by
    obtain ⟨n1, n2⟩ := List.nodup_cons.mp (show (x.1 :: keyI l).Nodup from nd)
    unfold getI
    rw [List.find?_cons]
    rcases List.mem_cons.mp h with e | h
    · subst e; simp
    · have : ¬ x.1 = k := fun e => n1 (e ▸ List.mem_map.mpr ⟨_, h, rfl⟩)
      rw [decF this]
      exact getI_mem n2 h
structure EndOk (G : Game) (F : List (Nat × Nat)) : Prop where
  nd : (F.map (·.1)).Nodup
  zero : 0 ∈ F.map (·.1)
  row : ∀ x ∈ F, x.1 < G.length ∧ metP G x.1 = false ∧ goodAsk (F.map (·.1)) (G.getD x.1 []) x.2
def fI (F : List (Nat × Nat)) : List (Int × D) := F.map fun x => (((x.1 : Nat) : Int), nD x.2)
theorem fI_key {F : List (Nat × Nat)} : keyI (fI F) = (F.map (·.1)).map fun x => ((x : Nat) : Int) := by
  unfold keyI fI
  rw [List.map_map, List.map_map]
  rfl
section
variable {P : Program} {w : World} {K : PySem.W.Frag} {mg : Str → Option Value} {base : Heap}
abbrev st__law_never : Stmt := topS 78
theorem sc__law_never : FnScope ["pot", "saying", "fees", "kept", "places", "rows", "asks", "at", "turn", "step", "some", "price", "come", "row"] ["pot", "saying", "fees", "kept", "places", "rows"] (defScope st__law_never) := ⟨rfl, rfl, rfl, by decide +kernel, rfl, by decide +kernel, by decide +kernel⟩
def sp__law_never : DSp := fun ds m Kd => ds.length = 6 ∧ ∃ p s f q0 ps F c, Say.Ok s ∧ Fee.Ok s.deeds f ∧ Places s f q0 ps ∧ EndOk (s.num f ps) F ∧ c ≤ 700000000 ∧ Pot m p c ∧ ds = [.ref p, s.enc, Fee.enc s.deeds f, kD s f, .lst (ps.map prN), .tup (F.map e3)] ∧ ∀ m', PotS m m' p (c + 60) → Kd (.bl true) m'
theorem ok__law_never {f : Addr} {fd : FuncData} (F : Fun K "_law_never" "_law_never" st__law_never f fd) (T : Txt mg) (G__law_answered : Fd P w K mg base 4 "_law_answered" ["saying", "fees", "kept", "pair", "step"] sp__law_answered) (G__law_asks : Fd P w K mg base 1 "_law_asks" ["saying", "kept", "room"] sp__law_asks) (G__law_take : Fd P w K mg base 1 "_law_take" ["pot", "many"] sp__law_take) : FnOk P w K mg base CX0 5 f fd ["pot", "saying", "fees", "kept", "places", "rows"] (spD K sp__law_never) := by
  refine fn_d F sc__law_never (fun _ _ _ h => h.1) fun cdv A outer s H E hr => ⟨_, (qss_cons (qs_set (i := 6) sc__law_never.nd rfl (by first | exact .inl rfl | exact .inr rfl) (q_callTy (callR_frz (call_dictP rfl)) liftDcI (by rfl) T.dict (by decide +kernel) (qa_cons (q_lc (own := [("row", 13)]) rfl sc__law_never.nd (qi_tup (qv 5)) (blkOk_by (by kernel_rfl)) (fun _ _ _ _ _ => (qg_name (i := 13) sc__law_never.nd rfl (by first | exact .inl rfl | exact .inr rfl))) (fun _ _ _ _ _ => qts_nil) (fun _ _ _ _ _ => (q_tup (qa_cons (q_ix (qv 13) q_int) (qa_cons (q_ix (qv 13) q_int) qa_nil))))) qa_nil)))
 (qss_cons (qs_set (i := 7) sc__law_never.nd rfl (by first | exact .inl rfl | exact .inr rfl) q_int)
 (qss_cons (qs_for (vs := [8]) PassesOwn.never rfl (qi_range (by rfl) T.rng (qa_cons q_int qa_nil)) (qg_name (i := 8) sc__law_never.nd rfl (by first | exact .inl rfl | exact .inr rfl))
 (qss_cons (qs_if (PW.pt (qw_or (qt_cmp (op_notInA (hu_of hr)) (liftIn true) (qv 7) (qv 6) (by rfl)) (qw_or1 (qt_cmp (op_eqD hr.units) liftEq (q_ix (q_ix (qv 4) (qv 7)) q_int) (q_ix (q_ix (qv 4) (qv 7)) q_int) (nomark _)))))
 (qss_one (qs_ret q_bl))
 qss_nil)
 (qss_cons (qs_set (i := 9) sc__law_never.nd rfl (by first | exact .inl rfl | exact .inr rfl) (q_ix (q_fd G__law_asks (hr.mono (by decide)) (by rfl) (qa_cons (qv 1) (qa_cons (qv 3) (qa_cons (q_ix (q_ix (qv 4) (qv 7)) q_int) qa_nil)))) (q_dget (hu_of hr) (qv 6) (qv 7))))
 (qss_cons (qs_set (i := 10) sc__law_never.nd rfl (by first | exact .inl rfl | exact .inr rfl) (q_fd G__law_answered (hr.mono (by decide)) (by rfl) (qa_cons (qv 1) (qa_cons (qv 2) (qa_cons (qv 3) (qa_cons (q_ix (qv 4) (qv 7)) (qa_cons (qv 9) qa_nil)))))))
 (qss_cons (qs_asg (vs := [11, 12]) (q_ix (qv 10) (q_fd G__law_take (hr.mono (by decide)) (by rfl) (qa_cons (qv 0) (qa_cons (q_callB call_lenA liftLen (by rfl) T.len (by decide +kernel) (qa_cons (qv 10) qa_nil)) qa_nil)))) (qg_tup (n := 2) rfl (qgs_cons (qg_name (i := 11) sc__law_never.nd rfl (by first | exact .inl rfl | exact .inr rfl)) (qgs_cons (qg_name (i := 12) sc__law_never.nd rfl (by first | exact .inl rfl | exact .inr rfl)) qgs_nil))))
 (qss_one (qs_set (i := 7) sc__law_never.nd rfl (by first | exact .inl rfl | exact .inr rfl) (q_index (hu65 hr) (qv 4) (qa_cons (qv 12) qa_nil)))))))))
 (qss_one (qs_ret q_bl))))), fun ds m Kd h => ?_⟩
  obtain ⟨_, p, z, fe, q0, ps, F, c, ok, fo, PL, EO, hc, hp, rfl, h⟩ := h
  have hG := goodAt_keptL z fe
  have z2 : 2 ≤ sizeLine := sz_of (by decide)
  have hps : ps.length ≤ 36 := by
    have := PL.len
    have h2 : z.rooms * z.rooms ≤ 6 * 6 := Nat.mul_le_mul ok.r2 ok.r2
    omega
  have hF : F.length ≤ 36 := by
    have := nodup_len (n := ps.length) EO.nd fun x hx => by
      obtain ⟨y, hy, rfl⟩ := List.mem_map.mp hx
      have := (EO.row y hy).1
      rw [num_len] at this
      exact this
    rw [List.length_map] at this
    omega
  refine ⟨_, rfl, _, rfl, ?_⟩
  refine lc_map (ys := F) (enc := e3) (g := fun x => .tup [nD x.1, nD x.2]) (sz_of (by omega)) (fun e he m2 Q N sm hq => ⟨fun _ => ?_, nofun⟩) ?_
  · exact ⟨_, rfl, _, _, nD e.1, rfl, rfl, rfl, _, rfl, _, _, nD e.2, rfl, rfl, rfl, z2, hq⟩
  have ndF : (keyI (fI F)).Nodup := by rw [fI_key]; exact nat_nd EO.nd
  have lkF : look m (.lst (F.map fun x => .tup [nD x.1, nD x.2])) = .lst ((fI F).map fun p => .tup [.int p.1, p.2]) := by
    show D.lst _ = D.lst _
    unfold fI
    rw [List.map_map]
    rfl
  refine ⟨_, fI F, rfl, lkF, ndF, ?_⟩
  refine ⟨60, rfl, by decide, by decide, ?_⟩
  rw [rg0]
  refine for_T (ys := List.range (Int.toNat 60)) (fun i δ m' => ∃ (at0 : Nat) (x8 x9 x10 x11 x12 x13 : Option D), δ = [some (.ref p), some z.enc, some (Fee.enc z.deeds fe), some (kD z fe), some (.lst (ps.map prN)), some (.tup (F.map e3)), some (.dI (fI F)), some (nD at0), x8, x9, x10, x11, x12, x13] ∧ at0 ∈ F.map (·.1) ∧ PotS m m' p (c + i))
    ⟨0, _, _, _, _, _, _, rfl, EO.zero, hp.refl⟩ ?_ ?_
  · rintro i y δ m' hy ⟨at0, x8, x9, x10, x11, x12, x13, rfl, hin, hs⟩
    obtain ⟨rfl, hi⟩ := range_get hy
    have hi : y < 60 := hi
    obtain ⟨en, hen, rfl⟩ := List.mem_map.mp hin
    obtain ⟨r1, r3, ask, r4', r5⟩ := EO.row en hen
    rw [num_len] at r1
    have eq0 : ps[en.1]? = some ps[en.1] := List.getElem?_eq_getElem r1
    generalize ps[en.1] = q at eq0
    have hne : q.1 ≠ q.2 := by
      rw [num_met PL eq0] at r3
      exact of_decide_eq_false r3
    have k2 := PL.kept q (List.mem_of_getElem? eq0)
    obtain ⟨st, est, rfl, ham⟩ := num_step PL eq0 hne r4'
    have hstm := List.mem_of_getElem? est
    obtain ⟨g1, g2, g3⟩ := steps_mem.mp hstm
    have gi : getI (fI F) ((en.1 : Nat) : Int) = some (nD en.2) := getI_mem ndF (List.mem_map.mpr ⟨en, hen, rfl⟩)
    have md : memD (.dI (fI F)) (nD en.1) = some true := by
      show some (getI (fI F) ((en.1 : Nat) : Int)).isSome = _
      rw [gi]
      rfl
    have hl := ask_len ok ham
    have hl1 : 1 ≤ (z.anss fe (z.keptB fe) q st).length := by
      unfold Say.anss
      rw [List.length_map]
      exact List.length_pos_iff.mpr (held_keeps k2.2 g1 g2)
    refine ⟨_, rfl, _, rfl, _, md, _, rfl, nofun, fun _ => ?_⟩
    refine ⟨_, rfl, _, rfl, _, _, prN q, rfl, rfl, at_list eq0, _, _, nD q.1, rfl, rfl, rfl, _, rfl, _, rfl, _, _, prN q, rfl, rfl, at_list eq0, _, _, nD q.2, rfl, rfl, rfl, rfl, rfl, _, rfl, fun e2 => ?_, fun _ => ?_⟩
    · rw [eqD_nat] at e2
      exact absurd (of_decide_eq_true e2) hne
    refine ⟨_, rfl, _, rfl, _, rfl, _, rfl, _, _, prN q, rfl, rfl, at_list eq0, _, _, nD q.1, rfl, rfl, rfl, rfl, _, ⟨z, _, _, q.1, ok, hG, k2.1.lt, rfl, rfl⟩, _, rfl, _, rfl, _, gi, _, _, prN st, rfl, rfl, at_list est, ?_⟩
    refine ⟨_, rfl, _, rfl, _, rfl, _, rfl, _, rfl, _, _, prN q, rfl, rfl, at_list eq0, _, rfl, rfl, _, ⟨z, fe, _, q, st, ok, fo, hG, k2.1.lt, k2.2.lt, g1, g2, g3, rfl, rfl⟩, ?_⟩
    refine ⟨_, rfl, _, rfl, _, rfl, _, _, rfl, len_map, rfl, p, _, c + y, rfl, hl1, by omega, by omega, hs.pot, fun r m1 hr1 hs1 => ?_⟩
    have eb : (z.anss fe (z.keptB fe) q st)[r]? = some (z.anss fe (z.keptB fe) q st)[r] := List.getElem?_eq_getElem hr1
    generalize (z.anss fe (z.keptB fe) q st)[r] = b at eb
    have hbm := List.mem_of_getElem? eb
    have hbp := PL.closed q (List.mem_of_getElem? eq0) _ ham b hbm
    refine ⟨_, _, ansD b, rfl, rfl, at_list eb, [nD b.1, prN b.2], rfl, rfl, _, _, rfl, _, _, rfl, rfl, ?_⟩
    refine ⟨_, rfl, _, rfl, _, rfl, _, _, ps.idxOf b.2, prN b.2, rfl, rfl, okD_prs, rfl, by rw [List.getElem?_map, at_idx hbp]; rfl, by rw [eqD_pr]; exact decT rfl, idx_first PL.nd, ?_⟩
    exact ⟨ps.idxOf b.2, _, _, _, _, _, _, rfl, r5 (b.1, ps.idxOf b.2) (List.mem_map.mpr ⟨b, hbm, rfl⟩), hs.trans hs1⟩
  · rintro δ m' ⟨at0, x8, x9, x10, x11, x12, x13, rfl, hin, hs⟩
    rw [List.length_range] at hs
    exact ⟨_, SubM.refl _, h m' hs⟩
end
end MW

end
section
set_option Elab.async false
set_option linter.all false
set_option maxRecDepth 100000
set_option pp.maxSteps 400
set_option maxHeartbeats 4000000
/-! MwV: the law's parted. -/
namespace MW
open PySem PySem.Spec PyProof.Rows L2
section
variable {s : Say} {f : Fee} {q0 : Pr} {ps : List Pr} {t : Nat → Option Nat}
/-- the pairs that have a total -/
def qsOf (G : Game) (ps : List Pr) (t : Nat → Option Nat) : List Pr := (mostL G t).map fun x => ps.getD x.1 (0, 0)
def kfOf (ps : List Pr) (t : Nat → Option Nat) (q : Pr) : Nat := (t (ps.idxOf q)).getD 0
theorem most_mem {G : Game} {x : Nat × Nat} : x ∈ mostL G t ↔ x.1 < G.length ∧ t x.1 = some x.2 := by
  unfold mostL
  rw [List.mem_filterMap]
  constructor
  · rintro ⟨i, hi, e⟩
    cases et : t i with
    | none => rw [et] at e; cases e
    | some k =>
      rw [et] at e
      have e := Option.some.inj e
      subst e
      exact ⟨List.mem_range.mp hi, et⟩
  · rintro ⟨h1, h2⟩
    exact ⟨x.1, List.mem_range.mpr h1, by rw [h2]; rfl⟩
theorem most_nd {G : Game} : ((mostL G t).map (·.1)).Nodup := by
  have : (mostL G t).map (·.1) = (List.range G.length).filter fun i => (t i).isSome := by
    unfold mostL
    generalize List.range G.length = l
    induction l with
    | nil => rfl
    | cons x l ih =>
      rw [List.filterMap_cons, List.filter_cons]
      cases e : t x with
      | none => simpa using ih
      | some k => simpa using ih
  rw [this]
  exact List.nodup_range.sublist List.filter_sublist
theorem qs_mem (PL : Places s f q0 ps) {q : Pr} : q ∈ qsOf (s.num f ps) ps t ↔ q ∈ ps ∧ (t (ps.idxOf q)).isSome = true := by
  unfold qsOf
  rw [List.mem_map]
  constructor
  · rintro ⟨x, hx, e⟩
    obtain ⟨h1, h2⟩ := most_mem.mp hx
    rw [num_len] at h1
    have ex : ps[x.1]? = some q := by rw [← e, getD_at (List.getElem?_eq_getElem h1)]; exact List.getElem?_eq_getElem h1
    refine ⟨List.mem_of_getElem? ex, ?_⟩
    rw [idx_at PL.nd ex, h2]
    rfl
  · rintro ⟨h1, h2⟩
    obtain ⟨k, hk⟩ := Option.isSome_iff_exists.mp h2
    exact ⟨(ps.idxOf q, k), most_mem.mpr ⟨by rw [num_len]; exact List.idxOf_lt_length_of_mem h1, hk⟩, getD_at (at_idx h1)⟩
theorem qs_nd (PL : Places s f q0 ps) : (qsOf (s.num f ps) ps t).Nodup := by
  have e : (qsOf (s.num f ps) ps t).map ps.idxOf = (mostL (s.num f ps) t).map (·.1) := by
    unfold qsOf
    rw [List.map_map]
    refine List.map_congr_left fun x hx => ?_
    obtain ⟨h1, _⟩ := most_mem.mp hx
    rw [num_len] at h1
    show ps.idxOf (ps.getD x.1 (0, 0)) = x.1
    exact idx_at PL.nd (by rw [getD_at (List.getElem?_eq_getElem h1)]; exact List.getElem?_eq_getElem h1)
  have nd := most_nd (G := s.num f ps) (t := t)
  rw [← e] at nd
  exact List.Pairwise.of_map _ (fun _ _ hne e => hne (congrArg (fun q => ps.idxOf q) e)) nd
theorem num_good (ok : (s.num f ps).Ok) (PL : Places s f q0 ps) (ht : IsTot (s.num f ps) t) : NumOk s f (qsOf (s.num f ps) ps t) (kfOf ps t) := by
  refine ⟨qs_nd PL, fun q hq => PL.kept q (qs_mem PL |>.mp hq).1, fun q hq hne ask0 ha0 => ?_, fun q hq hz => ?_⟩
  · obtain ⟨h1, h2⟩ := (qs_mem PL).mp hq
    obtain ⟨k, hk⟩ := Option.isSome_iff_exists.mp h2
    have hi := List.idxOf_lt_length_of_mem h1
    have hiN : ps.idxOf q < (s.num f ps).length := by rw [num_len]; exact hi
    obtain ⟨l1, _⟩ := ht.least _ hiN k hk
    have um : metP (s.num f ps) (ps.idxOf q) = false := by rw [num_met PL (at_idx h1)]; exact decF hne
    rcases (lev_iff ok hiN).mp l1 with z | z
    · rw [um] at z; cases z
    · obtain ⟨a, ha, a1, a2, a3⟩ := z (idxAsk ps ask0) (by rw [num_at (at_idx h1)]; exact List.mem_map.mpr ⟨ask0, ha0, rfl⟩)
      obtain ⟨b, hb, e⟩ := List.mem_map.mp ha
      subst e
      have hbp := PL.closed q h1 ask0 ha0 b hb
      have hbN : ps.idxOf b.2 < (s.num f ps).length := by rw [num_len]; exact List.idxOf_lt_length_of_mem hbp
      have a1 : 1 ≤ b.1 := a1
      have a2 : b.1 ≤ k := a2
      have a3 : lev (s.num f ps) (k - b.1) (ps.idxOf b.2) = true := a3
      cases et : t (ps.idxOf b.2) with
      | none => rw [ht.none _ hbN et] at a3; cases a3
      | some k' =>
        have hle : k' ≤ k - b.1 := by
          rcases Nat.lt_or_ge (k - b.1) k' with c | c
          · rw [(ht.least _ hbN k' et).2 _ c] at a3; cases a3
          · exact c
        refine ⟨b, hb, (qs_mem PL).mpr ⟨hbp, by rw [et]; rfl⟩, ?_⟩
        unfold kfOf
        rw [et, hk]
        show b.1 + k' ≤ k
        omega
  · obtain ⟨h1, h2⟩ := (qs_mem PL).mp hq
    obtain ⟨k, hk⟩ := Option.isSome_iff_exists.mp h2
    have hiN : ps.idxOf q < (s.num f ps).length := by rw [num_len]; exact List.idxOf_lt_length_of_mem h1
    unfold kfOf at hz
    rw [hk] at hz
    have hz : k = 0 := hz
    subst hz
    obtain ⟨l1, _⟩ := ht.least _ hiN 0 hk
    rw [lev_zero ok hiN, num_met PL (at_idx h1)] at l1
    exact of_decide_eq_true l1
theorem end_good (ok : (s.num f ps).Ok) (ht : IsTot (s.num f ps) t) (h0 : t 0 = none) {F : List (Nat × Nat)} (hF : (F.map (·.1)).Perm (endsL (s.num f ps) t)) (hg : ∀ x ∈ F, goodAsk (endsL (s.num f ps) t) ((s.num f ps).getD x.1 []) x.2) : EndOk (s.num f ps) F := by
  refine ⟨hF.nodup_iff.mpr (List.nodup_range.sublist List.filter_sublist), hF.mem_iff.mpr (ends_mem.mpr ⟨ok.g1, h0⟩), fun x hx => ?_⟩
  obtain ⟨h1, h2, _⟩ := ends_good ok ht x.1 (hF.mem_iff.mp (List.mem_map.mpr ⟨x, hx, rfl⟩))
  obtain ⟨ask, e, h3⟩ := hg x hx
  exact ⟨h1, h2, ask, e, fun a ha => hF.mem_iff.mpr (h3 a ha)⟩
end
section
variable {P : Program} {w : World} {K : PySem.W.Frag} {mg : Str → Option Value} {base : Heap}
abbrev st__law_parted : Stmt := topS 79
theorem sc__law_parted : FnScope ["pot", "saying", "fees", "kept", "own", "other", "game", "places", "told", "rows", "fine", "word", "most", "numbers", "total", "turn", "at", "number"] ["pot", "saying", "fees", "kept", "own", "other"] (defScope st__law_parted) := ⟨rfl, rfl, rfl, by decide +kernel, rfl, by decide +kernel, by decide +kernel⟩
noncomputable def sp__law_parted (tp : Addr) : DSp := fun ds m Kd => ds.length = 6 ∧ ∃ p s f q0 top c, Say.Ok s ∧ Fee.Ok s.deeds f ∧ (∀ w g x, f.cost w g = some x → x ≤ top) ∧ top ≤ 6 ∧ s.rooms * s.rooms * (top + 1) ≤ 120 ∧ s.K2 f q0 ∧ c ≤ 600000000 ∧ Pot m p c ∧ grdM m ∧ Tb tp m ∧
  ds = [.ref p, s.enc, Fee.enc s.deeds f, kD s f, nD q0.1, nD q0.2] ∧ ∀ m', PotS m m' p (c + 304084) → Kd (.bl true) m'
theorem ok__law_parted {f tp : Addr} {fd : FuncData} (F : Fun K "_law_parted" "_law_parted" st__law_parted f fd) (T : Txt mg) (G_total_or_endless : Fd P w K mg base 7 "total_or_endless" ["game"] sp_total_or_endless) (G__law_never : Fd P w K mg base 5 "_law_never" ["pot", "saying", "fees", "kept", "places", "rows"] sp__law_never) (G__law_bounded : Fd P w K mg base 5 "_law_bounded" ["saying", "fees", "kept", "numbers"] sp__law_bounded) (G__law_whole : Fd P w K mg base 1 "_law_whole" ["found"] sp__law_whole) (G__law_together : Fd P w K mg base 5 "_law_together" ["pot", "saying", "fees", "kept", "numbers", "pair"] sp__law_together) (G__law_pays : Fd P w K mg base 5 "_law_pays" ["pot", "saying", "fees", "kept", "places", "rows", "total"] sp__law_pays) (G_game_apart : FdK P w K mg base 7 "game_apart" ["saying", "own", "mended", "prices"] ["prices"] 3 (sp_game_apart tp)) :
    FnOk P w K mg base CX0 8 f fd ["pot", "saying", "fees", "kept", "own", "other"] (spD K (sp__law_parted tp)) := by
  refine fn_d F sc__law_parted (fun _ _ _ h => h.1) fun cdv A outer s H E hr => ⟨_, (qss_cons (qs_asg (vs := [6, 7]) (q_fdk G_game_apart (hr.mono (by decide)) (by rfl) (qa_cons (qv 1) (qa_cons (qv 4) (qa_cons (qv 5) qa_nil))) (qk_cons (qv 2) qk_nil)) (qg_tup (n := 2) rfl (qgs_cons (qg_name (i := 6) sc__law_parted.nd rfl (by first | exact .inl rfl | exact .inr rfl)) (qgs_cons (qg_name (i := 7) sc__law_parted.nd rfl (by first | exact .inl rfl | exact .inr rfl)) qgs_nil))))
 (qss_cons (qs_set (i := 8) sc__law_parted.nd rfl (by first | exact .inl rfl | exact .inr rfl) (q_fd G_total_or_endless (hr.mono (by decide)) (by rfl) (qa_cons (qv 6) qa_nil)))
 (qss_cons (qs_set (i := 7) sc__law_parted.nd rfl (by first | exact .inl rfl | exact .inr rfl) (q_callTy (callR_frz call_list_of) liftLs (by rfl) T.lst (by decide +kernel) (qa_cons (qv 7) qa_nil)))
 (qss_cons (qs_if (qt_cmp (op_neD hr.units) liftNe (q_ix (qv 7) q_int) (q_tup (qa_cons (qv 4) (qa_cons (qv 5) qa_nil))) (nomark _))
 (qss_one (qs_ret q_bl))
 qss_nil)
 (qss_cons (qs_if (qt_cmp (op_eqD hr.units) liftEq (q_ix (qv 8) q_int) q_str (nomark _))
 (qss_cons (qs_set (i := 9) sc__law_parted.nd rfl (by first | exact .inl rfl | exact .inr rfl) (q_ix (qv 8) q_int))
 (qss_cons (qs_set (i := 10) sc__law_parted.nd rfl (by first | exact .inl rfl | exact .inr rfl) (q_fd G__law_never (hr.mono (by decide)) (by rfl) (qa_cons (qv 0) (qa_cons (qv 1) (qa_cons (qv 2) (qa_cons (qv 3) (qa_cons (qv 7) (qa_cons (qv 9) qa_nil))))))))
 (qss_one (qs_ret (q_and (q_cmp (op_neD hr.units) liftNe (qv 4) (qv 5) (nomark _)) (q_and (qv 10) (q_one (q_fd G__law_never (hr.mono (by decide)) (by rfl) (qa_cons (qv 0) (qa_cons (qv 1) (qa_cons (qv 2) (qa_cons (qv 3) (qa_cons (qv 7) (qa_cons (qv 9) qa_nil))))))))))))))
 qss_nil)
 (qss_cons (qs_asg (vs := [11, 12, 9]) (qv 8) (qg_tup (n := 3) rfl (qgs_cons (qg_name (i := 11) sc__law_parted.nd rfl (by first | exact .inl rfl | exact .inr rfl)) (qgs_cons (qg_name (i := 12) sc__law_parted.nd rfl (by first | exact .inl rfl | exact .inr rfl)) (qgs_cons (qg_name (i := 9) sc__law_parted.nd rfl (by first | exact .inl rfl | exact .inr rfl)) qgs_nil)))))
 (qss_cons (qs_set (i := 13) sc__law_parted.nd rfl (by first | exact .inl rfl | exact .inr rfl) (q_callTy (callR_frz (call_dictPT rfl (hu65 hr))) liftDcP (by rfl) T.dict (by decide +kernel) (qa_cons (q_lc (own := [("at", 16), ("number", 17)]) rfl sc__law_parted.nd (qi_tup (qv 12)) (blkOk_by (by kernel_rfl)) (fun _ _ _ _ _ => (qg_tup (n := 2) rfl (qgs_cons (qg_name (i := 16) sc__law_parted.nd rfl (by first | exact .inl rfl | exact .inr rfl)) (qgs_cons (qg_name (i := 17) sc__law_parted.nd rfl (by first | exact .inl rfl | exact .inr rfl)) qgs_nil)))) (fun _ _ _ _ _ => qts_nil) (fun _ _ _ _ _ => (q_tup (qa_cons (q_ix (qv 7) (qv 16)) (qa_cons (qv 17) qa_nil))))) qa_nil)))
 (qss_cons (qs_set (i := 14) sc__law_parted.nd rfl (by first | exact .inl rfl | exact .inr rfl) (q_dget (hu_of hr) (qv 13) (q_tup (qa_cons (qv 4) (qa_cons (qv 5) qa_nil)))))
 (qss_cons (qs_if (PW.pt (qw_or (qt_not (qt_val (q_fd G__law_whole (hr.mono (by decide)) (by rfl) (qa_cons (qv 14) qa_nil)))) (qw_or1 (qt_cmp (op_neD hr.units) liftNe (q_cmp (op_eqD hr.units) liftEq (qv 14) q_int (nomark _)) (q_cmp (op_eqD hr.units) liftEq (qv 4) (qv 5) (nomark _)) (nomark _)))))
 (qss_one (qs_ret q_bl))
 qss_nil)
 (qss_cons (qs_if (qt_not (qt_val (q_fd G__law_bounded (hr.mono (by decide)) (by rfl) (qa_cons (qv 1) (qa_cons (qv 2) (qa_cons (qv 3) (qa_cons (qv 13) qa_nil)))))))
 (qss_one (qs_ret q_bl))
 qss_nil)
 (qss_cons (qs_for (vs := [15]) PassesOwn.never rfl (qi_range (by rfl) T.rng (qa_cons q_int qa_nil)) (qg_name (i := 15) sc__law_parted.nd rfl (by first | exact .inl rfl | exact .inr rfl))
 (qss_cons (qs_if (qt_not (qt_val (q_fd G__law_together (hr.mono (by decide)) (by rfl) (qa_cons (qv 0) (qa_cons (qv 1) (qa_cons (qv 2) (qa_cons (qv 3) (qa_cons (qv 13) (qa_cons (q_tup (qa_cons (qv 4) (qa_cons (qv 5) qa_nil))) qa_nil)))))))))
 (qss_one (qs_ret q_bl))
 qss_nil)
 (qss_one (qs_if (qt_not (qt_val (q_fd G__law_pays (hr.mono (by decide)) (by rfl) (qa_cons (qv 0) (qa_cons (qv 1) (qa_cons (qv 2) (qa_cons (qv 3) (qa_cons (qv 7) (qa_cons (qv 9) (qa_cons (qv 14) qa_nil))))))))))
 (qss_one (qs_ret q_bl))
 qss_nil))))
 (qss_one (qs_ret q_bl))))))))))))), fun ds m Kd h => ?_⟩
  obtain ⟨_, p, z, fe, q0, top, c, ok, fo, ht6, h6, hnar, k0, hc, hp, gm, tb, rfl, h⟩ := h
  have z2 : 2 ≤ sizeLine := sz_of (by decide)
  refine ⟨_, rfl, _, rfl, _, rfl, _, rfl, rfl, rfl, rfl, z, fe, q0, ok, fo, k0, rfl, gm, tb, fun ps PL => ?_⟩
  have hi0 : ps[0]? = some q0 := PL.hd
  have p0 : 0 < ps.length := (List.getElem?_eq_some_iff.mp PL.hd).1
  have GO := num_ok ok PL ht6 h6
  have nar : (z.num fe ps).length * dear (z.num fe ps) ≤ 120 := by
    rw [num_len]
    exact Nat.le_trans (Nat.mul_le_mul PL.len (num_dear PL ht6)) hnar
  have hps : ps.length ≤ 36 := by
    have := GO.g2
    rw [num_len] at this
    exact this
  have N0 : 0 < (z.num fe ps).length := by rw [num_len]; exact p0
  refine ⟨[z.gameOf fe ps, .tup (ps.map prN)], rfl, rfl, _, _, rfl, _, _, rfl, rfl, ?_⟩
  refine ⟨_, rfl, rfl, z.num fe ps, GO, nar, by rw [gameOf_num], fun t ht => ⟨fun h0 F hF hg => ?_, fun Tt h0 hT4 R LO => ?_⟩⟩
  · have EO := end_good GO ht h0 hF hg
    have hne : q0.1 ≠ q0.2 := by
      have um : metP (z.num fe ps) 0 = false := Bool.eq_false_iff.mpr fun c1 => by
        have := ht.none 0 N0 h0 0
        rw [lev_zero GO N0, c1] at this
        cases this
      rw [num_met PL hi0] at um
      exact of_decide_eq_false um
    refine ⟨_, rfl, _, _, rfl, rfl, ?_⟩
    refine ⟨_, rfl, _, _, prN q0, rfl, rfl, at_list (i := 0) hi0, _, rfl, _, rfl, z2, rfl, rfl, _, rfl, fun e => ?_, fun _ => ?_⟩
    · have e : (!eqD (prN q0) (prN q0)) = true := e
      rw [eqD_pr, decT rfl] at e
      cases e
    refine ⟨_, rfl, _, _, .str "endless", rfl, rfl, rfl, by decide +kernel, by decide +kernel, _, rfl, fun _ => ?_, fun e => ?_⟩
    · refine ⟨_, rfl, _, _, .tup (F.map e3), rfl, rfl, rfl, ?_⟩
      refine ⟨_, rfl, _, rfl, _, rfl, _, rfl, _, rfl, _, rfl, rfl, p, z, fe, q0, ps, F, c, ok, fo, PL, EO, by omega, hp, rfl, fun m1 hs1 => ?_⟩
      refine ⟨_, rfl, _, rfl, rfl, rfl, _, rfl, fun _ => ?_, fun e => ?_⟩
      · refine ⟨_, rfl, true, rfl, fun _ => ?_, nofun⟩
        exact ⟨_, rfl, _, rfl, _, rfl, _, rfl, _, rfl, _, rfl, rfl, p, z, fe, q0, ps, F, c + 60, ok, fo, PL, EO, by omega, hs1.pot, rfl, fun m2 hs2 => ⟨_, SubM.refl _, h m2 ((hs1.trans hs2).mono (by omega))⟩⟩
      · have e : (!eqD (.int (q0.1 : Nat)) (.int (q0.2 : Nat))) = false := e
        rw [eqD_nat, decF hne] at e
        cases e
    · rw [eqD_str] at e
      exact absurd e (by decide +kernel)
  · have NO := num_good GO PL ht
    have hq0 : q0 ∈ qsOf (z.num fe ps) ps t := (qs_mem PL).mpr ⟨List.mem_of_getElem? hi0, by rw [idx_at PL.nd hi0, h0]; rfl⟩
    have hk0 : kfOf ps t q0 = Tt := by
      unfold kfOf
      rw [idx_at PL.nd hi0, h0]
      rfl
    have hT0 : Tt = 0 ↔ q0.1 = q0.2 := by
      obtain ⟨l1, l2⟩ := ht.least 0 N0 Tt h0
      constructor
      · intro e
        rw [e, lev_zero GO N0, num_met PL hi0] at l1
        exact of_decide_eq_true l1
      · intro e
        rcases Nat.eq_zero_or_pos Tt with c1 | c1
        · exact c1
        · have := l2 0 c1
          rw [lev_zero GO N0, num_met PL hi0, decT e] at this
          cases this
    refine ⟨_, rfl, _, _, rfl, rfl, ?_⟩
    refine ⟨_, rfl, _, _, prN q0, rfl, rfl, at_list (i := 0) hi0, _, rfl, _, rfl, z2, rfl, rfl, _, rfl, fun e => ?_, fun _ => ?_⟩
    · have e : (!eqD (prN q0) (prN q0)) = true := e
      rw [eqD_pr, decT rfl] at e
      cases e
    refine ⟨_, rfl, _, _, .str "total", rfl, rfl, rfl, by decide +kernel, by decide +kernel, _, rfl, fun e => ?_, fun _ => ?_⟩
    · rw [eqD_str] at e
      exact absurd e (by decide +kernel)
    refine ⟨_, rfl, [.str "total", .tup ((mostL (z.num fe ps) t).map p2), .tup (R.map r4)], rfl, rfl, _, _, rfl, _, _, rfl, _, _, rfl, rfl, ?_⟩
    refine ⟨_, rfl, _, rfl, ?_⟩
    have ml : (mostL (z.num fe ps) t).length ≤ 36 := by
      have := nodup_len (most_nd (G := z.num fe ps) (t := t)) fun x hx => by
        obtain ⟨y, hy, rfl⟩ := List.mem_map.mp hx
        exact (most_mem.mp hy).1
      rw [List.length_map, num_len] at this
      omega
    refine lc_map (ys := mostL (z.num fe ps) t) (enc := p2) (g := fun x => .tup [prN (ps.getD x.1 (0, 0)), nD x.2]) (sz_of (by omega)) (fun x hx m2 Q N sm hq => ?_) ?_
    · have hxl : x.1 < ps.length := by
        have := (most_mem.mp hx).1
        rw [num_len] at this
        exact this
      have ex : ps[x.1]? = some (ps.getD x.1 (0, 0)) := by rw [getD_at (List.getElem?_eq_getElem hxl)]; exact List.getElem?_eq_getElem hxl
      exact ⟨_, rfl, rfl, _, _, rfl, _, _, rfl, rfl, fun _ => ⟨_, rfl, _, rfl, _, _, _, rfl, rfl, at_list ex, _, rfl, z2, hq⟩, nofun⟩
    have lkN : ∀ m, look m (.lst ((mostL (z.num fe ps) t).map fun x => .tup [prN (ps.getD x.1 (0, 0)), nD x.2])) = .lst ((numK (qsOf (z.num fe ps) ps t) (kfOf ps t)).map fun p => .tup [prD p.1, p.2]) := fun m => by
      show D.lst _ = D.lst _
      unfold numK qsOf
      rw [List.map_map, List.map_map]
      congr 1
      refine List.map_congr_left fun x hx => ?_
      obtain ⟨h1, h2⟩ := most_mem.mp hx
      rw [num_len] at h1
      have ek : kfOf ps t (ps.getD x.1 (0, 0)) = x.2 := by
        unfold kfOf
        rw [idx_at PL.nd (show ps[x.1]? = some (ps.getD x.1 (0, 0)) by rw [getD_at (List.getElem?_eq_getElem h1)]; exact List.getElem?_eq_getElem h1), h2]
        rfl
      show D.tup [prN (ps.getD x.1 (0, 0)), nD x.2] = D.tup [prN (ps.getD x.1 (0, 0)), nD (kfOf ps t (ps.getD x.1 (0, 0)))]
      rw [ek]
    have ndK : (keyP (numK (qsOf (z.num fe ps) ps t) (kfOf ps t))).Nodup := by rw [numK_key]; exact nodup_map (fun a b e => prK_inj e) NO.nd
    refine ⟨_, numK (qsOf (z.num fe ps) ps t) (kfOf ps t), rfl, lkN _, ndK, ?_⟩
    refine ⟨_, rfl, _, rfl, _, rfl, z2, nD (kfOf ps t q0), numK_get NO.nd hq0, ?_⟩
    rw [hk0]
    refine ⟨_, rfl, rfl, _, ⟨_, rfl, rfl⟩, _, rfl, nofun, fun _ => ?_⟩
    refine ⟨_, rfl, rfl, rfl, _, rfl, _, rfl, rfl, rfl, rfl, rfl, _, rfl, fun e => ?_, fun _ => ?_⟩
    · have e : (!eqD (.bl (eqD (.int (Tt : Nat)) (.int (0 : Nat)))) (.bl (eqD (.int (q0.1 : Nat)) (.int (q0.2 : Nat))))) = true := e
      have e1 : decide (Tt = 0) = decide (q0.1 = q0.2) := decide_eq_decide.mpr hT0
      rw [eqD_nat, eqD_nat, eqD_bl, e1] at e
      simp at e
    refine ⟨_, rfl, _, rfl, _, rfl, _, rfl, rfl, _, ⟨z, fe, _, _, ok, fo, NO, rfl, rfl⟩, _, rfl, nofun, fun _ => ?_⟩
    refine ⟨2, rfl, by decide, by decide, ?_⟩
    rw [rg0]
    refine for_T (ys := List.range (Int.toNat 2)) (fun i δ m' => ∃ x6 x10 x15 x16 x17 : Option D, δ = [some (.ref p), some z.enc, some (Fee.enc z.deeds fe), some (kD z fe), some (nD q0.1), some (nD q0.2), x6, some (.lst (ps.map prN)), some (.tup [.str "total", .tup ((mostL (z.num fe ps) t).map p2), .tup (R.map r4)]), some (.tup (R.map r4)), x10, some (.str "total"), some (.tup ((mostL (z.num fe ps) t).map p2)), some (.dP (numK (qsOf (z.num fe ps) ps t) (kfOf ps t))), some (nD Tt), x15, x16, x17] ∧ PotS m m' p (c + i * 152042)) ⟨_, _, _, _, _, rfl, by simpa using hp.refl⟩ ?_ ?_
    · rintro i y δ m' hy ⟨x6, x10, x15, x16, x17, rfl, hs⟩
      obtain ⟨rfl, hi⟩ := range_get hy
      have hi : y < 2 := hi
      refine ⟨_, rfl, _, rfl, _, rfl, _, rfl, _, rfl, _, rfl, _, rfl, z2, rfl, p, z, fe, _, _, q0, c + y * 152042, ok, fo, NO, hq0, by rw [hk0]; exact hT4, by omega, hs.pot, rfl, fun m1 hs1 => ⟨_, rfl, nofun, fun _ => ?_⟩⟩
      refine ⟨_, rfl, _, rfl, _, rfl, _, rfl, _, rfl, _, rfl, _, rfl, rfl, p, z, fe, q0, ps, R, Tt, c + y * 152042 + 8002, ok, fo, PL, LO, by omega, hs1.pot, rfl, fun m2 hs2 => ⟨_, rfl, nofun, fun _ => ?_⟩⟩
      exact ⟨_, _, _, _, _, rfl, ((hs.trans hs1).trans hs2).mono (by omega)⟩
    · rintro δ m' ⟨x6, x10, x15, x16, x17, rfl, hs⟩
      rw [List.length_range] at hs
      exact ⟨_, SubM.refl _, h m' (hs.mono (by show c + 2 * 152042 ≤ _; omega))⟩
end
end MW

end
section
set_option Elab.async false
set_option linter.all false
set_option maxRecDepth 100000
set_option pp.maxSteps 400
set_option maxHeartbeats 4000000
/-! MwW: law. -/
namespace MW
open PySem PySem.Spec PyProof.Rows L2
theorem look_sub {m m' : Mem} {S : D} {l : List D} (h : SubM m m') (e : look m S = .lst l) : look m' S = .lst l := by
  cases S with
  | ref p =>
    have e : (m p).getD (.ref p) = .lst l := e
    show (m' p).getD (.ref p) = .lst l
    cases c : m p with
    | none => rw [c] at e; cases e
    | some d => rw [c] at e; rw [h p d c]; exact e
  | _ => exact e
theorem grdM_pot {m m' : Mem} {p : Addr} {c : Nat} (h : grdM m) (k : PotS m m' p c) : grdM m' := fun q d e => by
  by_cases hq : q = p
  · subst hq
    obtain ⟨a, b, c', h1, _⟩ := k.pot
    rw [h1] at e
    cases e
    rfl
  · rw [k.oth q hq] at e
    exact h q d e
theorem sub_pot {m m' : Mem} {p : Addr} {c : Nat} (h : m p = none) (k : PotS m m' p c) : SubM m m' := fun q d e => by
  rw [k.oth q (fun z => by rw [z, h] at e; cases e)]
  exact e
theorem PotS.upd {m m' : Mem} {p : Addr} {c : Nat} {d : D} (k : PotS (updM m p d) m' p c) : PotS m m' p c := ⟨k.pot, fun q hq => by rw [k.oth q hq, updM_ne hq]⟩
theorem Tb.pot {tp p : Addr} {m m' : Mem} {c : Nat} (h : Tb tp m) (hp : m p = none) (k : PotS m m' p c) : Tb tp m' := by
  obtain ⟨e1, e2⟩ := h
  refine ⟨(sub_pot hp k) _ _ e1, fun b nm e => ?_⟩
  by_cases hb : b = p
  · subst hb
    obtain ⟨a, b', c', h1, _⟩ := k.pot
    rw [h1] at e
    cases e
  · rw [k.oth b hb] at e
    exact e2 b nm e
theorem feeNone {n : Nat} : Fee.Ok n none := ⟨fun w => if_pos rfl, fun w g q hwg hq => by
  have hq : (if g = w then some 0 else some 1) = some q := hq
  rw [if_neg (fun z => hwg z.symm)] at hq
  have := Option.some.inj hq
  omega⟩
theorem feeNoneC : ∀ w g x, Fee.cost none w g = some x → x ≤ 1 := fun w g x hx => by
  have hx : (if g = w then some 0 else some 1) = some x := hx
  split at hx <;> (have := Option.some.inj hx; omega)
theorem narW {r k b : Nat} (h : r ≤ k) (e : k * k * b ≤ 120) : r * r * b ≤ 120 := Nat.le_trans (Nat.mul_le_mul_right b (Nat.mul_le_mul h h)) e
theorem nd1 (r : Nat) : nD (1 + r) = .int (1 + ((r : Nat) : Int)) := by
  show D.int ((1 + r : Nat) : Int) = _
  rw [Int.natCast_add]
  rfl
section
variable {P : Program} {w : World} {K : PySem.W.Frag} {mg : Str → Option Value} {base : Heap}
abbrev st_law : Stmt := topS 80
theorem sc_law : FnScope ["script", "k", "pot", "way", "most", "signs", "deeds", "saying", "fees", "kept", "turn", "own", "other"] ["script"] (defScope st_law) := ⟨rfl, rfl, rfl, by decide +kernel, rfl, by decide +kernel, by decide +kernel⟩
def sp_law (tp : Addr) : DSp := fun ds m Kd => ds.length = 1 ∧ ∃ (S : D) (ns : List Int), ds = [S] ∧ look m S = .lst (ns.map D.int) ∧ grdM m ∧ Tb tp m ∧ ∀ m', SubM m m' → Kd (.bl true) m'
theorem ok_law {f tp : Addr} {fd : FuncData} (F : Fun K "law" "law" st_law f fd) (T : Txt mg) (G__law_pot : Fd P w K mg base 1 "_law_pot" ["script", "k"] sp__law_pot) (G__law_saying : Fd P w K mg base 3 "_law_saying" ["pot", "signs", "deeds", "rooms", "rate"] sp__law_saying) (G__law_kept : Fd P w K mg base 4 "_law_kept" ["saying", "fees"] sp__law_kept) (G__law_take : Fd P w K mg base 1 "_law_take" ["pot", "many"] sp__law_take) (G__law_prices : Fd P w K mg base 3 "_law_prices" ["pot", "deeds", "top"] sp__law_prices) (G__law_parted : Fd P w K mg base 8 "_law_parted" ["pot", "saying", "fees", "kept", "own", "other"] (sp__law_parted tp)) :
    FnOk P w K mg base CX0 9 f fd ["script"] (spD K (sp_law tp)) := by
  refine fn_d F sc_law (fun _ _ _ h => h.1) fun cdv A outer s H E hr => ⟨_, (qss_cons (qs_for (vs := [1]) PassesOwn.never rfl (qi_range (by rfl) T.rng (qa_cons (q_callB (call_max2 rfl) liftMax2 (by rfl) T.max (by decide +kernel) (qa_cons q_int (qa_cons (q_callB (call_min2 rfl) liftMin2 (by rfl) T.min (by decide +kernel) (qa_cons q_int (qa_cons (q_callB call_lenA liftLen (by rfl) T.len (by decide +kernel) (qa_cons (qv 0) qa_nil)) qa_nil))) qa_nil))) qa_nil)) (qg_name (i := 1) sc_law.nd rfl (by first | exact .inl rfl | exact .inr rfl))
 (qss_cons (qs_set (i := 2) sc_law.nd rfl (by first | exact .inl rfl | exact .inr rfl) (q_fd G__law_pot (hr.mono (by decide)) (by rfl) (qa_cons (qv 0) (qa_cons (qv 1) qa_nil))))
 (qss_cons (qs_set (i := 3) sc_law.nd rfl (by first | exact .inl rfl | exact .inr rfl) (q_op op_add liftI0 (q_fd G__law_take (hr.mono (by decide)) (by rfl) (qa_cons (qv 2) (qa_cons q_int qa_nil))) (q_op op_mul liftI q_int (q_callTy call_int1 liftIntB (by rfl) T.int (by decide +kernel) (qa_cons (q_cmp (op_eqD hr.units) liftEq (qv 1) q_int (nomark _)) qa_nil)))))
 (qss_cons (qs_set (i := 4) sc_law.nd rfl (by first | exact .inl rfl | exact .inr rfl) (q_ix (q_lst (qa_cons q_int (qa_cons q_int (qa_cons q_int (qa_cons q_int qa_nil))))) (qv 3)))
 (qss_cons (qs_set (i := 5) sc_law.nd rfl (by first | exact .inl rfl | exact .inr rfl) (q_op op_add liftI0 q_int (q_fd G__law_take (hr.mono (by decide)) (by rfl) (qa_cons (qv 2) (qa_cons q_int qa_nil)))))
 (qss_cons (qs_set (i := 6) sc_law.nd rfl (by first | exact .inl rfl | exact .inr rfl) (q_op op_add liftI0 q_int (q_fd G__law_take (hr.mono (by decide)) (by rfl) (qa_cons (qv 2) (qa_cons q_int qa_nil)))))
 (qss_cons (qs_set (i := 7) sc_law.nd rfl (by first | exact .inl rfl | exact .inr rfl) (q_fd G__law_saying (hr.mono (by decide)) (by rfl) (qa_cons (qv 2) (qa_cons (qv 5) (qa_cons (qv 6) (qa_cons (q_op op_add liftI0 q_int (q_fd G__law_take (hr.mono (by decide)) (by rfl) (qa_cons (qv 2) (qa_cons (qv 4) qa_nil)))) (qa_cons (q_ix (q_lst (qa_cons q_int (qa_cons q_int (qa_cons q_int (qa_cons q_int qa_nil))))) (q_fd G__law_take (hr.mono (by decide)) (by rfl) (qa_cons (qv 2) (qa_cons q_int qa_nil)))) qa_nil)))))))
 (qss_cons (qs_set (i := 8) sc_law.nd rfl (by first | exact .inl rfl | exact .inr rfl) q_non)
 (qss_cons (qs_if (qt_cmp op_lt liftB0 (qv 3) q_int (nomark _))
 (qss_one (qs_set (i := 8) sc_law.nd rfl (by first | exact .inl rfl | exact .inr rfl) (q_fd G__law_prices (hr.mono (by decide)) (by rfl) (qa_cons (qv 2) (qa_cons (qv 6) (qa_cons (q_ix (q_lst (qa_cons q_int (qa_cons q_int qa_nil))) (qv 3)) qa_nil))))))
 qss_nil)
 (qss_cons (qs_set (i := 9) sc_law.nd rfl (by first | exact .inl rfl | exact .inr rfl) (q_fd G__law_kept (hr.mono (by decide)) (by rfl) (qa_cons (qv 7) (qa_cons (qv 8) qa_nil))))
 (qss_one (qs_if (qt_cmp (op_neD hr.units) liftNe (qv 9) (q_lst qa_nil) (nomark _))
 (qss_one (qs_for (vs := [10]) PassesOwn.never rfl (qi_range (by rfl) T.rng (qa_cons (q_op op_add liftI0 q_int (q_callTy call_int1 liftIntB (by rfl) T.int (by decide +kernel) (qa_cons (q_cmp op_lt liftB0 (qv 1) q_int (nomark _)) qa_nil))) qa_nil)) (qg_name (i := 10) sc_law.nd rfl (by first | exact .inl rfl | exact .inr rfl))
 (qss_cons (qs_set (i := 11) sc_law.nd rfl (by first | exact .inl rfl | exact .inr rfl) (q_ix (qv 9) (q_fd G__law_take (hr.mono (by decide)) (by rfl) (qa_cons (qv 2) (qa_cons (q_callB call_lenA liftLen (by rfl) T.len (by decide +kernel) (qa_cons (qv 9) qa_nil)) qa_nil)))))
 (qss_cons (qs_set (i := 12) sc_law.nd rfl (by first | exact .inl rfl | exact .inr rfl) (q_ix (qv 9) (q_fd G__law_take (hr.mono (by decide)) (by rfl) (qa_cons (qv 2) (qa_cons (q_callB call_lenA liftLen (by rfl) T.len (by decide +kernel) (qa_cons (qv 9) qa_nil)) qa_nil)))))
 (qss_one (qs_if (qt_not (qt_val (q_fd G__law_parted (hr.mono (by decide)) (by rfl) (qa_cons (qv 2) (qa_cons (qv 7) (qa_cons (qv 8) (qa_cons (qv 9) (qa_cons (qv 11) (qa_cons (qv 12) qa_nil)))))))))
 (qss_one (qs_ret q_bl))
 qss_nil))))))
 qss_nil))))))))))))
 (qss_one (qs_ret q_bl))), fun ds m Kd h => ?_⟩
  obtain ⟨_, S, ns, rfl, hS, gm, tb, h⟩ := h
  have ll : lenD (look m S) = some ns.length := by rw [hS]; show some (List.length _) = _; rw [List.length_map]
  refine ⟨_, rfl, _, _, rfl, ll, _, _, rfl, _, _, rfl, ?_⟩
  obtain ⟨n, hn, n63⟩ : ∃ n : Nat, (if (if ((ns.length : Nat) : Int) < 63 then ((ns.length : Nat) : Int) else 63) > 1 then (if ((ns.length : Nat) : Int) < 63 then ((ns.length : Nat) : Int) else 63) else 1) = (n : Nat) ∧ n ≤ 63 := by
    refine ⟨Int.toNat (if (if ((ns.length : Nat) : Int) < 63 then ((ns.length : Nat) : Int) else 63) > 1 then (if ((ns.length : Nat) : Int) < 63 then ((ns.length : Nat) : Int) else 63) else 1), ?_, ?_⟩ <;> (split <;> split <;> omega)
  refine ⟨(n : Nat), by rw [hn], by omega, by omega, ?_⟩
  rw [rg0, Int.toNat_natCast]
  refine for_T (fun i δ m' => ∃ x1 x2 x3 x4 x5 x6 x7 x8 x9 x10 x11 x12 : Option D, δ = [some S, x1, x2, x3, x4, x5, x6, x7, x8, x9, x10, x11, x12] ∧ SubM m m' ∧ grdM m' ∧ Tb tp m') ⟨_, _, _, _, _, _, _, _, _, _, _, _, rfl, SubM.refl m, gm, tb⟩ ?_ ?_
  · rintro k y δ m0 hy ⟨x1, x2, x3, x4, x5, x6, x7, x8, x9, x10, x11, x12, rfl, sm, gm0, tb0⟩
    obtain ⟨rfl, hk⟩ := range_get hy
    refine ⟨_, rfl, _, rfl, rfl, S, ns, y, rfl, look_sub sm hS, by omega, fun p hp a b ha hb hb2 => ?_⟩
    have P0 : Pot (updM m0 p (potD a b 0)) p 0 := ⟨a, b, 0, updM_same, ha, hb, hb2, Nat.le_refl _⟩
    refine ⟨_, rfl, rfl, p, 2, 0, rfl, by decide, by decide, by omega, P0, fun r0 m1 hr0 hs1 => ?_⟩
    refine ⟨_, rfl, rfl, rfl, _, rfl, _, _, rfl, rfl, .inl ⟨by decide, by decide⟩, _, _, rfl, rfl, ?_⟩
    obtain ⟨way, hway, w3, wk⟩ : ∃ way : Nat, ((r0 : Nat) : Int) + 2 * (if eqD (.int (y : Nat)) (.int (0 : Nat)) = true then 1 else 0) = (way : Nat) ∧ way ≤ 3 ∧ True := by
      split
      · exact ⟨r0 + 2, by omega, by omega, trivial⟩
      · exact ⟨r0, by omega, by omega, trivial⟩
    have z4 : 4 ≤ sizeLine := sz_of (by decide)
    have hw4 : ∃ most : Nat, atI [D.int 3, D.int 4, D.int 6, D.int 6] ((way : Nat) : Int) = some (nD most) ∧ 1 ≤ most ∧ most ≤ 6 ∧ (way = 0 → most = 3) ∧ (way = 1 → most = 4) := by
      have : way = 0 ∨ way = 1 ∨ way = 2 ∨ way = 3 := by omega
      rcases this with e | e | e | e <;> subst e
      · exact ⟨3, rfl, by omega, by omega, by omega, by omega⟩
      · exact ⟨4, rfl, by omega, by omega, by omega, by omega⟩
      · exact ⟨6, rfl, by omega, by omega, by omega, by omega⟩
      · exact ⟨6, rfl, by omega, by omega, by omega, by omega⟩
    obtain ⟨most, am, mo1, mo2, mo3, mo4⟩ := hw4
    refine ⟨z4, _, rfl, _, _, nD most, rfl, rfl, by rw [← hway] at am; exact am, ?_⟩
    refine ⟨_, rfl, rfl, p, 2, 1, rfl, by decide, by decide, by omega, hs1.pot, fun r1 m2 hr1 hs2 => ?_⟩
    refine ⟨_, _, rfl, rfl, ?_⟩
    refine ⟨_, rfl, rfl, p, 3, 2, rfl, by decide, by decide, by omega, hs2.pot, fun r2 m3 hr2 hs3 => ?_⟩
    refine ⟨_, _, rfl, rfl, ?_⟩
    refine ⟨_, rfl, _, rfl, _, rfl, _, rfl, _, rfl, rfl, p, most, 3, rfl, mo1, by omega, by omega, hs3.pot, fun r3 m4 hr3 hs4 => ?_⟩
    refine ⟨_, _, rfl, rfl, ?_⟩
    obtain ⟨rate, ra1, ra2⟩ : ∃ rate : Nat → Nat, (∀ r, r < 4 → atI [D.int 3, D.int 5, D.int 9, D.int 99] ((r : Nat) : Int) = some (nD (rate r))) ∧ ∀ r, r < 4 → 1 ≤ rate r ∧ rate r ≤ 1000 := by
      refine ⟨fun r => match r with | 0 => 3 | 1 => 5 | 2 => 9 | _ => 99, fun r hr => ?_, fun r hr => ?_⟩ <;>
        (have : r = 0 ∨ r = 1 ∨ r = 2 ∨ r = 3 := by omega
         rcases this with e | e | e | e <;> subst e)
      · rfl
      · rfl
      · rfl
      · rfl
      · exact ⟨by decide, by decide⟩
      · exact ⟨by decide, by decide⟩
      · exact ⟨by decide, by decide⟩
      · exact ⟨by decide, by decide⟩
    refine ⟨z4, _, rfl, rfl, p, 4, 4, rfl, by decide, by decide, by omega, hs4.pot, fun r4 m5 hr4 hs5 => ?_⟩
    refine ⟨_, _, nD (rate r4), rfl, rfl, ra1 r4 hr4, ?_⟩
    have hq5 : PotS m0 m5 p 5 := ((((hs1.trans hs2).trans hs3).trans hs4).trans hs5).upd
    refine ⟨rfl, p, 1 + r1, 1 + r2, 1 + r3, rate r4, 5, by rw [nd1, nd1, nd1], by omega, by omega, by omega, by omega, by omega, by omega, (ra2 r4 hr4).1, (ra2 r4 hr4).2, by omega, hq5.pot, fun z m6 ok e1 e2 e3 hs6 => ?_⟩
    have hq6 : PotS m0 m6 p 77 := hq5.trans hs6
    have hrm : z.rooms ≤ most := by omega
    have z2 : 2 ≤ sizeLine := sz_of (by decide)
    refine ⟨_, rfl, _, _, rfl, rfl, _, rfl, fun e => ?_, fun e => ?_⟩
    · have e : ((r0 : Nat) : Int) + 2 * (if eqD (.int (y : Nat)) (.int (0 : Nat)) = true then 1 else 0) < 2 := of_decide_eq_true e
      obtain ⟨top, at1, t1, t6, tn⟩ : ∃ top : Nat, atI [D.int 6, D.int 3] ((way : Nat) : Int) = some (nD top) ∧ 1 ≤ top ∧ top ≤ 6 ∧ z.rooms * z.rooms * (top + 1) ≤ 120 := by
        have : way = 0 ∨ way = 1 := by omega
        rcases this with c | c
        · have := mo3 c
          subst c
          exact ⟨6, rfl, by omega, by omega, narW (show z.rooms ≤ 3 by omega) (by decide)⟩
        · have := mo4 c
          subst c
          exact ⟨3, rfl, by omega, by omega, narW (show z.rooms ≤ 4 by omega) (by decide)⟩
      refine ⟨_, rfl, _, rfl, z2, _, rfl, _, _, nD top, rfl, rfl, by rw [← hway] at at1; exact at1, ?_⟩
      refine ⟨rfl, p, z.deeds, top, 77, by rw [e2, nd1], by omega, t1, t6, by omega, hq6.pot, fun fe m7 fo hco hs7 => ?_⟩
      have hq7 : PotS m0 m7 p 96 := hq6.trans hs7
      refine ⟨_, rfl, _, rfl, rfl, _, ⟨z, fe, ok, fo, rfl, rfl⟩, ?_⟩
      refine ⟨_, rfl, Nat.zero_le _, okD_nats _, rfl, _, rfl, fun e9 => ?_, fun e9 => ?_⟩
      · have e9 : (!eqD (kD z fe) (.lst [])) = true := e9
        have hne : 1 ≤ (z.kepts fe).length := by
          have e10 : eqD (kD z fe) (.lst []) = (z.kepts fe).isEmpty := eqD_nil _
          rw [e10] at e9
          cases c : z.kepts fe with
          | nil => rw [c] at e9; cases e9
          | cons x l => exact Nat.succ_le_succ (Nat.zero_le _)
        have hkl := Say.kepts_len (s := z) (f := fe)
        have hz6 := ok.r2
        obtain ⟨n2, hn2, n22⟩ : ∃ n2 : Nat, (1 : Int) + (if decide (((y : Nat) : Int) < 3) = true then 1 else 0) = (n2 : Nat) ∧ n2 ≤ 2 := by
          split
          · exact ⟨2, rfl, by omega⟩
          · exact ⟨1, rfl, by omega⟩
        refine ⟨_, rfl, _, _, rfl, rfl, _, rfl, _, _, rfl, rfl, (n2 : Nat), congrArg (fun z => [D.int z]) hn2, by omega, by omega, ?_⟩
        rw [rg0, Int.toNat_natCast]
        refine for_T (fun i δ m' => ∃ w3 w5 w6 x10 x11 x12 : Option D, δ = [some S, some (nD y), some (.ref p), w3, some (nD most), w5, w6, some z.enc, some (Fee.enc z.deeds fe), some (kD z fe), x10, x11, x12] ∧ PotS m0 m' p (96 + i * 304086)) ⟨_, _, _, _, _, _, rfl, hq7⟩ ?_ ?_
        · rintro i y2 δ m8 hy2 ⟨w3, w5, w6, x10, x11, x12, rfl, hs8⟩
          obtain ⟨rfl, hi2⟩ := range_get hy2
          have kmem : ∀ {r a : Nat}, (z.kepts fe)[r]? = some a → z.Kept fe a := fun h => Say.mem_kepts.mp (List.mem_of_getElem? h)
          refine ⟨_, rfl, _, rfl, _, rfl, _, _, rfl, len_map, rfl, p, (z.kepts fe).length, 96 + y2 * 304086, rfl, hne, by omega, by omega, hs8.pot, fun a1 m9 ha1 hs9 => ?_⟩
          have ea : (z.kepts fe)[a1]? = some (z.kepts fe)[a1] := List.getElem?_eq_getElem ha1
          generalize (z.kepts fe)[a1] = own at ea
          refine ⟨_, _, nD own, rfl, rfl, at_list ea, ?_⟩
          have hq9 := hs8.trans hs9
          refine ⟨_, rfl, _, rfl, _, rfl, _, _, rfl, len_map, rfl, p, (z.kepts fe).length, 96 + y2 * 304086 + 1, rfl, hne, by omega, by omega, hq9.pot, fun a2 m10 ha2 hs10 => ?_⟩
          have eb : (z.kepts fe)[a2]? = some (z.kepts fe)[a2] := List.getElem?_eq_getElem ha2
          generalize (z.kepts fe)[a2] = other at eb
          refine ⟨_, _, nD other, rfl, rfl, at_list eb, ?_⟩
          have hq10 := hq9.trans hs10
          refine ⟨_, rfl, _, rfl, _, rfl, _, rfl, _, rfl, _, rfl, rfl, p, z, fe, (own, other), top, 96 + y2 * 304086 + 2, ok, fo, hco, t6, tn, ⟨kmem ea, kmem eb⟩, by omega, hq10.pot, grdM_pot gm0 hq10, tb0.pot hp hq10, rfl, fun m11 hs11 => ⟨_, rfl, nofun, fun _ => ?_⟩⟩
          exact ⟨_, _, _, _, _, _, rfl, (hq10.trans hs11).mono (by omega)⟩
        · rintro δ m8 ⟨w3, w5, w6, x10, x11, x12, rfl, hs8⟩
          exact ⟨_, _, _, _, _, _, _, _, _, _, _, _, rfl, sm.trans (sub_pot hp hs8), grdM_pot gm0 hs8, tb0.pot hp hs8⟩
      · exact ⟨_, _, _, _, _, _, _, _, _, _, _, _, rfl, sm.trans (sub_pot hp hq7), grdM_pot gm0 hq7, tb0.pot hp hq7⟩
    · obtain ⟨fe, hfe, fo, top, hco, t6, tn⟩ : ∃ fe : Fee, fe = none ∧ Fee.Ok z.deeds fe ∧ ∃ top : Nat, (∀ w g x, fe.cost w g = some x → x ≤ top) ∧ top ≤ 6 ∧ z.rooms * z.rooms * (top + 1) ≤ 120 := ⟨none, rfl, feeNone, 1, feeNoneC, by omega, narW (show z.rooms ≤ 6 by omega) (by decide)⟩
      have hen : Fee.enc z.deeds fe = .non := by rw [hfe]; rfl
      have hq7 : PotS m0 m6 p 96 := hq6.mono (by omega)
      rw [← hen]
      refine ⟨_, rfl, _, rfl, rfl, _, ⟨z, fe, ok, fo, rfl, rfl⟩, ?_⟩
      refine ⟨_, rfl, Nat.zero_le _, okD_nats _, rfl, _, rfl, fun e9 => ?_, fun e9 => ?_⟩
      · have e9 : (!eqD (kD z fe) (.lst [])) = true := e9
        have hne : 1 ≤ (z.kepts fe).length := by
          have e10 : eqD (kD z fe) (.lst []) = (z.kepts fe).isEmpty := eqD_nil _
          rw [e10] at e9
          cases c : z.kepts fe with
          | nil => rw [c] at e9; cases e9
          | cons x l => exact Nat.succ_le_succ (Nat.zero_le _)
        have hkl := Say.kepts_len (s := z) (f := fe)
        have hz6 := ok.r2
        obtain ⟨n2, hn2, n22⟩ : ∃ n2 : Nat, (1 : Int) + (if decide (((y : Nat) : Int) < 3) = true then 1 else 0) = (n2 : Nat) ∧ n2 ≤ 2 := by
          split
          · exact ⟨2, rfl, by omega⟩
          · exact ⟨1, rfl, by omega⟩
        refine ⟨_, rfl, _, _, rfl, rfl, _, rfl, _, _, rfl, rfl, (n2 : Nat), congrArg (fun z => [D.int z]) hn2, by omega, by omega, ?_⟩
        rw [rg0, Int.toNat_natCast]
        refine for_T (fun i δ m' => ∃ w3 w5 w6 x10 x11 x12 : Option D, δ = [some S, some (nD y), some (.ref p), w3, some (nD most), w5, w6, some z.enc, some (Fee.enc z.deeds fe), some (kD z fe), x10, x11, x12] ∧ PotS m0 m' p (96 + i * 304086)) ⟨_, _, _, _, _, _, rfl, hq7⟩ ?_ ?_
        · rintro i y2 δ m8 hy2 ⟨w3, w5, w6, x10, x11, x12, rfl, hs8⟩
          obtain ⟨rfl, hi2⟩ := range_get hy2
          have kmem : ∀ {r a : Nat}, (z.kepts fe)[r]? = some a → z.Kept fe a := fun h => Say.mem_kepts.mp (List.mem_of_getElem? h)
          refine ⟨_, rfl, _, rfl, _, rfl, _, _, rfl, len_map, rfl, p, (z.kepts fe).length, 96 + y2 * 304086, rfl, hne, by omega, by omega, hs8.pot, fun a1 m9 ha1 hs9 => ?_⟩
          have ea : (z.kepts fe)[a1]? = some (z.kepts fe)[a1] := List.getElem?_eq_getElem ha1
          generalize (z.kepts fe)[a1] = own at ea
          refine ⟨_, _, nD own, rfl, rfl, at_list ea, ?_⟩
          have hq9 := hs8.trans hs9
          refine ⟨_, rfl, _, rfl, _, rfl, _, _, rfl, len_map, rfl, p, (z.kepts fe).length, 96 + y2 * 304086 + 1, rfl, hne, by omega, by omega, hq9.pot, fun a2 m10 ha2 hs10 => ?_⟩
          have eb : (z.kepts fe)[a2]? = some (z.kepts fe)[a2] := List.getElem?_eq_getElem ha2
          generalize (z.kepts fe)[a2] = other at eb
          refine ⟨_, _, nD other, rfl, rfl, at_list eb, ?_⟩
          have hq10 := hq9.trans hs10
          refine ⟨_, rfl, _, rfl, _, rfl, _, rfl, _, rfl, _, rfl, rfl, p, z, fe, (own, other), top, 96 + y2 * 304086 + 2, ok, fo, hco, t6, tn, ⟨kmem ea, kmem eb⟩, by omega, hq10.pot, grdM_pot gm0 hq10, tb0.pot hp hq10, rfl, fun m11 hs11 => ⟨_, rfl, nofun, fun _ => ?_⟩⟩
          exact ⟨_, _, _, _, _, _, rfl, (hq10.trans hs11).mono (by omega)⟩
        · rintro δ m8 ⟨w3, w5, w6, x10, x11, x12, rfl, hs8⟩
          exact ⟨_, _, _, _, _, _, _, _, _, _, _, _, rfl, sm.trans (sub_pot hp hs8), grdM_pot gm0 hs8, tb0.pot hp hs8⟩
      · exact ⟨_, _, _, _, _, _, _, _, _, _, _, _, rfl, sm.trans (sub_pot hp hq7), grdM_pot gm0 hq7, tb0.pot hp hq7⟩
  · rintro δ m' ⟨x1, x2, x3, x4, x5, x6, x7, x8, x9, x10, x11, x12, rfl, sm, _, _⟩
    exact ⟨_, SubM.refl _, h m' sm⟩
end
end MW

end
section
set_option Elab.async false
set_option linter.all false
set_option maxRecDepth 100000
set_option maxHeartbeats 0
/-! MwX: all defs at the head, joined. Printed by genx.py. -/
namespace MW
open PySem PySem.Spec PyProof.Rows L2
/-- a def of the top, as it stands in the kept part -/
def Had (K : PySem.W.Frag) (x : Str) (st : Stmt) : Prop := ∃ (f : Addr) (oc : Value) (od : Option Addr) (osl : Array (Option Value)) (kV dc pm : Value) (an : Option Addr) (cd ct : Value),
  PySem.W.nsIn K mainGlobals x = some (some (.ref f)) ∧ K.lookup f = some ⟨oc, od, .func (PySem.W.fnOf x x (defArgs st) (defBody st) (defScope st) .none kV dc pm an cd ct), osl⟩ ∧ PySem.W.codeIn K cd x = true ∧ PySem.W.keepIn K (.ref f) = true
theorem ex_mk {K : PySem.W.Frag} {x : Str} {i : Int} {t} (h : PySem.W.nsIn K mainGlobals x = some (some (.int i t))) : ∃ t, PySem.W.nsIn K mainGlobals x = some (some (.int i t)) := ⟨t, h⟩
theorem had_mk {K : PySem.W.Frag} {x : Str} {st : Stmt} {f : Addr} {oc : Value} {od : Option Addr} {osl : Array (Option Value)} {kV dc pm : Value} {an : Option Addr} {cd ct : Value} (a : PySem.W.nsIn K mainGlobals x = some (some (.ref f))) (l : K.lookup f = some ⟨oc, od, .func (PySem.W.fnOf x x (defArgs st) (defBody st) (defScope st) .none kV dc pm an cd ct), osl⟩) (c : PySem.W.codeIn K cd x = true) (k : PySem.W.keepIn K (.ref f) = true) : Had K x st := ⟨f, oc, od, osl, kV, dc, pm, an, cd, ct, a, l, c, k⟩
theorem fd_of {P : Program} {w : World} {K : PySem.W.Frag} {mg : Str → Option Value} {base h : Heap} {k : Nat} {x : Str} {ps : List Str} {st : Stmt} {S : DSp} (X : K.In h) (G : h.Ns mainGlobals mg) (H : Had K x st)
    (hb : ∀ f fd, Fun K x x st f fd → Binds K fd ps []) (ok : ∀ f fd, Fun K x x st f fd → FnOk P w K mg base CX0 k f fd ps (spD K S)) : Fd P w K mg base k x ps S := by
  obtain ⟨f, oc, od, osl, kV, dc, pm, an, cd, ct, a, l, c, kp⟩ := H
  have F := fun_mk (st := st) l c kp
  exact ⟨f, _, ok f _ F, PySem.W.mg_of X G a, kp, hb f _ F⟩
theorem law_sp {K : PySem.W.Frag} {H : Hp} {a tp : Addr} {ns : List Int} {E : XK} (ht : H tp = some (.tbl #[])) (hS : SqL K H a (ns.map V.int)) : spD K (sp_law tp) [.ref a] H (fun v _ => v = .bl true) E := by
  have gi : ∀ l : List Int, grds (l.map D.int) = true := fun l => by
    induction l with
    | nil => rfl
    | cons x l ih => show (true && grds (l.map D.int)) = true; rw [ih]; rfl
  have tN : NdefX.TabN H tp nmA := NdefX.TabN.nil ht
  have fin : ∀ v (H' : Hp) (d : D) (m' : Mem), Keep H H' → MOk K H' m' → Rep K H' d v → (d = .bl true) → v = .bl true := fun v H' d m' _ _ r e => by subst e; cases r; rfl
  have frz : FrL K H a (ns.map V.int) → spD K (sp_law tp) [.ref a] H (fun v _ => v = .bl true) E := fun hF => by
    refine ⟨[.lst (ns.map D.int)], fun b => if b = tp then some (.tab nmA) else none, fun d _ => d = .bl true, .cons (.lst hF (repL_ints ns)) .nil, fun p c e => ?_, ⟨rfl, .lst (ns.map D.int), ns, rfl, rfl, fun p c e => ?_, ⟨if_pos rfl, fun b nm e => ?_⟩, fun m' _ => rfl⟩, fin⟩
    · have e : (if p = tp then some (D.tab nmA) else none) = some c := e
      split at e
      · rename_i hp
        cases e
        rw [hp]
        exact tN
      · cases e
    · have e : (if p = tp then some (D.tab nmA) else none) = some c := e
      split at e
      · cases e; rfl
      · cases e
    · have e : (if b = tp then some (D.tab nmA) else none) = some (.tab nm) := e
      split at e
      · assumption
      · cases e
  rcases hS with (hS | hS) | hS
  · have na : a ≠ tp := fun z => by rw [z, ht] at hS; cases hS
    refine ⟨[.ref a], fun b => if b = tp then some (.tab nmA) else if b = a then some (.lst (ns.map D.int)) else none, fun d _ => d = .bl true, .cons (.ref a) .nil, fun p c e => ?_, ⟨rfl, .ref a, ns, rfl, ?_, fun p c e => ?_, ⟨if_pos rfl, fun b nm e => ?_⟩, fun m' _ => rfl⟩, fin⟩
    · have e : (if p = tp then some (D.tab nmA) else if p = a then some (D.lst (ns.map D.int)) else none) = some c := e
      split at e
      · rename_i hp
        cases e
        rw [hp]
        exact tN
      · split at e
        · rename_i hp
          cases e
          rw [hp]
          exact ⟨_, hS, repL_ints ns⟩
        · cases e
    · show (if a = tp then some (D.tab nmA) else if a = a then some (D.lst (ns.map D.int)) else none).getD (.ref a) = _
      rw [if_neg na, if_pos rfl]
      rfl
    · have e : (if p = tp then some (D.tab nmA) else if p = a then some (D.lst (ns.map D.int)) else none) = some c := e
      split at e
      · cases e; rfl
      · split at e
        · cases e; exact gi ns
        · cases e
    · have e : (if b = tp then some (D.tab nmA) else if b = a then some (D.lst (ns.map D.int)) else none) = some (.tab nm) := e
      split at e
      · assumption
      · split at e
        · cases e
        · cases e
  · exact frz (.inl hS)
  · exact frz (.inr hS)
theorem law_at {l : PySem.W.OpenLaw} {w : World} {K : PySem.W.Frag} {h : Heap} {mg : Str → Option Value} {fa fA fL cA tp : Addr} (X : K.In h) (G : h.Ns mainGlobals mg) (hfa : mg "law" = some (.ref fa))
    (H__law_pot : Had K "_law_pot" st__law_pot)
    (H__law_take : Had K "_law_take" st__law_take)
    (H__law_room : Had K "_law_room" st__law_room)
    (H__law_saying : Had K "_law_saying" st__law_saying)
    (H__law_cost : Had K "_law_cost" st__law_cost)
    (H__law_answers : Had K "_law_answers" st__law_answers)
    (H__law_held : Had K "_law_held" st__law_held)
    (H__law_kept : Had K "_law_kept" st__law_kept)
    (H__law_price : Had K "_law_price" st__law_price)
    (H__law_prices : Had K "_law_prices" st__law_prices)
    (H_is_whole : Had K "is_whole" st_is_whole)
    (H_is_between : Had K "is_between" st_is_between)
    (H_is_below : Had K "is_below" st_is_below)
    (H_is_answer : Had K "is_answer" st_is_answer)
    (H_is_ask : Had K "is_ask" st_is_ask)
    (H_is_game : Had K "is_game" st_is_game)
    (H_need_game : Had K "need_game" st_need_game)
    (H_dearest : Had K "dearest" st_dearest)
    (H_need_narrow : Had K "need_narrow" st_need_narrow)
    (H_is_met : Had K "is_met" st_is_met)
    (H_level_behind : Had K "level_behind" st_level_behind)
    (H_totals_of : Had K "totals_of" st_totals_of)
    (H_least_of : Had K "least_of" st_least_of)
    (H_least_rows : Had K "least_rows" st_least_rows)
    (H_first_forcing : Had K "first_forcing" st_first_forcing)
    (H_endless_rows : Had K "endless_rows" st_endless_rows)
    (H_row_behind : Had K "row_behind" st_row_behind)
    (H_rows_to : Had K "rows_to" st_rows_to)
    (H_total_or_endless : Had K "total_or_endless" st_total_or_endless)
    (H__law_some : Had K "_law_some" st__law_some)
    (H__law_answered : Had K "_law_answered" st__law_answered)
    (H__law_asks : Had K "_law_asks" st__law_asks)
    (H__law_never : Had K "_law_never" st__law_never)
    (H__law_bounded : Had K "_law_bounded" st__law_bounded)
    (H__law_whole : Had K "_law_whole" st__law_whole)
    (H__law_together : Had K "_law_together" st__law_together)
    (H__law_pays : Had K "_law_pays" st__law_pays)
    (H_is_row : Had K "is_row" st_is_row)
    (H_is_count : Had K "is_count" st_is_count)
    (H_is_room : Had K "is_room" st_is_room)
    (H_is_saying : Had K "is_saying" st_is_saying)
    (H_need_saying : Had K "need_saying" st_need_saying)
    (H_is_price : Had K "is_price" st_is_price)
    (H_are_prices : Had K "are_prices" st_are_prices)
    (H_need_prices : Had K "need_prices" st_need_prices)
    (H_need_both : Had K "need_both" st_need_both)
    (H_cost : Had K "cost" st_cost)
    (H_answers_to : Had K "answers_to" st_answers_to)
    (H_keepers : Had K "keepers" st_keepers)
    (H_losing : Had K "losing" st_losing)
    (H_lost_in : Had K "lost_in" st_lost_in)
    (H_kept_in : Had K "kept_in" st_kept_in)
    (H_placed : Had K "placed" st_placed)
    (H__law_parted : Had K "_law_parted" st__law_parted)
    (H_game_by : Had K "game_by" st_game_by)
    (Z_len : PySem.W.nsIn K mainGlobals "len" = some none)
    (Z_isinstance : PySem.W.nsIn K mainGlobals "isinstance" = some none)
    (Z_range : PySem.W.nsIn K mainGlobals "range" = some none)
    (Z_tuple : PySem.W.nsIn K mainGlobals "tuple" = some none)
    (Z_list : PySem.W.nsIn K mainGlobals "list" = some none)
    (Z_int : PySem.W.nsIn K mainGlobals "int" = some none)
    (Z_bool : PySem.W.nsIn K mainGlobals "bool" = some none)
    (Z_all : PySem.W.nsIn K mainGlobals "all" = some none)
    (Z_any : PySem.W.nsIn K mainGlobals "any" = some none)
    (Z_max : PySem.W.nsIn K mainGlobals "max" = some none)
    (Z_min : PySem.W.nsIn K mainGlobals "min" = some none)
    (Z_abs : PySem.W.nsIn K mainGlobals "abs" = some none)
    (Z_dict : PySem.W.nsIn K mainGlobals "dict" = some none)
    (Z_enumerate : PySem.W.nsIn K mainGlobals "enumerate" = some none)
    (Z_sorted : PySem.W.nsIn K mainGlobals "sorted" = some none)
    (Z_MOST : ∃ t, PySem.W.nsIn K mainGlobals "MOST" = some (some (.int 100 t)))
    (Z_WIDE : ∃ t, PySem.W.nsIn K mainGlobals "WIDE" = some (some (.int 9 t)))
    (Z_DEAR : ∃ t, PySem.W.nsIn K mainGlobals "DEAR" = some (some (.int 99 t)))
    (Z_MOST_ASKS : ∃ t, PySem.W.nsIn K mainGlobals "MOST_ASKS" = some (some (.int 81 t)))
    (Z_MOST_ANSWERS : ∃ t, PySem.W.nsIn K mainGlobals "MOST_ANSWERS" = some (some (.int 9 t)))
    (Z_BROAD : ∃ t, PySem.W.nsIn K mainGlobals "BROAD" = some (some (.int 120 t)))
    {oc1 kV1 dc1 pm1 ct1 : Value} {od1 an1 : Option Addr} {sl1 : Array (Option Value)} {oc2 kV2 dc2 pm2 cd2 ct2 : Value} {od2 an2 : Option Addr} {sl2 : Array (Option Value)}
    (aA : PySem.W.nsIn K mainGlobals "game_apart" = some (some (.ref fA))) (lA : K.lookup fA = some ⟨oc1, od1, .func (PySem.W.fnOf "game_apart" "game_apart" (defArgs st_game_apart) (defBody st_game_apart) (defScope st_game_apart) .none kV1 dc1 pm1 an1 (.ref cA) ct1), sl1⟩) (iA : PySem.W.codeIn K (.ref cA) "game_apart" = true) (kA : PySem.W.keepIn K (.ref fA) = true)
    (aL : PySem.W.nsIn K mainGlobals "law" = some (some (.ref fL))) (lL : K.lookup fL = some ⟨oc2, od2, .func (PySem.W.fnOf "law" "law" (defArgs st_law) (defBody st_law) (defScope st_law) .none kV2 dc2 pm2 an2 cd2 ct2), sl2⟩) (iL : PySem.W.codeIn K cd2 "law" = true) (kL : PySem.W.keepIn K (.ref fL) = true)
    (hd : PySem.W.codeHdIn K cA tp = true) (nt : K.lookup tp = none) (ht : h.get? tp = some { cls := .none, data := .fields #[] }) :
    LamX.LawAtS l w K CX0 9 63 "script" mg fa h := by
  have e := hfa.symm.trans (PySem.W.mg_of X G aL)
  cases e
  have T : Txt mg := ⟨PySem.W.mg_none_of X G Z_len, PySem.W.mg_none_of X G Z_isinstance, PySem.W.mg_none_of X G Z_range, PySem.W.mg_none_of X G Z_tuple, PySem.W.mg_none_of X G Z_list, PySem.W.mg_none_of X G Z_int, PySem.W.mg_none_of X G Z_bool, PySem.W.mg_none_of X G Z_all, PySem.W.mg_none_of X G Z_any, PySem.W.mg_none_of X G Z_max, PySem.W.mg_none_of X G Z_min, PySem.W.mg_none_of X G Z_abs, PySem.W.mg_none_of X G Z_dict, PySem.W.mg_none_of X G Z_enumerate, PySem.W.mg_none_of X G Z_sorted, Z_MOST.elim fun t e => ⟨t, PySem.W.mg_of X G e⟩, Z_WIDE.elim fun t e => ⟨t, PySem.W.mg_of X G e⟩, Z_DEAR.elim fun t e => ⟨t, PySem.W.mg_of X G e⟩, Z_MOST_ASKS.elim fun t e => ⟨t, PySem.W.mg_of X G e⟩, Z_MOST_ANSWERS.elim fun t e => ⟨t, PySem.W.mg_of X G e⟩, Z_BROAD.elim fun t e => ⟨t, PySem.W.mg_of X G e⟩⟩
  refine ⟨PySem.W.fnOf "law" "law" (defArgs st_law) (defBody st_law) (defScope st_law) .none kV2 dc2 pm2 an2 cd2 ct2, [(cA, tp)], spD K (sp_law tp), fun p hp => ?_, fun p hp => ?_, fun p hp => ?_, fun s v => .of_eq rfl, fun H a ns _ _ hT hS => law_sp (hT (cA, tp) (List.mem_singleton.mpr rfl)) hS, fun base hB hG hTb => ?_⟩
  · rw [List.mem_singleton.mp hp]; exact ht
  · rw [List.mem_singleton.mp hp]; exact nt
  · rw [List.mem_singleton.mp hp]; exact PySem.W.codeHd_of_K X hd
  have TB : LamX.TabB base mg cA tp := hTb (cA, tp) (List.mem_singleton.mpr rfl)
  have G__law_pot : Fd l.prog w K mg base 1 "_law_pot" ["script", "k"] sp__law_pot := fd_of X G H__law_pot (fun f fd F => F.binds (ps := ["script", "k"]) fun _ _ _ _ _ _ us hl => match us, hl with | [_, _], _ => rfl) fun f fd F => ok__law_pot F T
  have G__law_take : Fd l.prog w K mg base 1 "_law_take" ["pot", "many"] sp__law_take := fd_of X G H__law_take (fun f fd F => F.binds (ps := ["pot", "many"]) fun _ _ _ _ _ _ us hl => match us, hl with | [_, _], _ => rfl) fun f fd F => ok__law_take F T
  have G__law_room : Fd l.prog w K mg base 2 "_law_room" ["pot", "rooms", "rate"] sp__law_room := fd_of X G H__law_room (fun f fd F => F.binds (ps := ["pot", "rooms", "rate"]) fun _ _ _ _ _ _ us hl => match us, hl with | [_, _, _], _ => rfl) fun f fd F => ok__law_room F T (G__law_take := G__law_take)
  have G__law_saying : Fd l.prog w K mg base 3 "_law_saying" ["pot", "signs", "deeds", "rooms", "rate"] sp__law_saying := fd_of X G H__law_saying (fun f fd F => F.binds (ps := ["pot", "signs", "deeds", "rooms", "rate"]) fun _ _ _ _ _ _ us hl => match us, hl with | [_, _, _, _, _], _ => rfl) fun f fd F => ok__law_saying F T (G__law_room := G__law_room)
  have G__law_cost : Fd l.prog w K mg base 1 "_law_cost" ["fees", "wanted", "given"] sp__law_cost := fd_of X G H__law_cost (fun f fd F => F.binds (ps := ["fees", "wanted", "given"]) fun _ _ _ _ _ _ us hl => match us, hl with | [_, _, _], _ => rfl) fun f fd F => ok__law_cost F T
  have G__law_answers : Fd l.prog w K mg base 2 "_law_answers" ["fees", "deeds", "wanted"] sp__law_answers := fd_of X G H__law_answers (fun f fd F => F.binds (ps := ["fees", "deeds", "wanted"]) fun _ _ _ _ _ _ us hl => match us, hl with | [_, _, _], _ => rfl) fun f fd F => ok__law_answers F T (G__law_cost := G__law_cost)
  have G__law_held : Fd l.prog w K mg base 3 "_law_held" ["saying", "fees", "rooms", "room"] sp__law_held := fd_of X G H__law_held (fun f fd F => F.binds (ps := ["saying", "fees", "rooms", "room"]) fun _ _ _ _ _ _ us hl => match us, hl with | [_, _, _, _], _ => rfl) fun f fd F => ok__law_held F T (G__law_answers := G__law_answers)
  have G__law_kept : Fd l.prog w K mg base 4 "_law_kept" ["saying", "fees"] sp__law_kept := fd_of X G H__law_kept (fun f fd F => F.binds (ps := ["saying", "fees"]) fun _ _ _ _ _ _ us hl => match us, hl with | [_, _], _ => rfl) fun f fd F => ok__law_kept F T (G__law_held := G__law_held)
  have G__law_price : Fd l.prog w K mg base 2 "_law_price" ["pot", "wanted", "given", "top"] sp__law_price := fd_of X G H__law_price (fun f fd F => F.binds (ps := ["pot", "wanted", "given", "top"]) fun _ _ _ _ _ _ us hl => match us, hl with | [_, _, _, _], _ => rfl) fun f fd F => ok__law_price F T (G__law_take := G__law_take)
  have G__law_prices : Fd l.prog w K mg base 3 "_law_prices" ["pot", "deeds", "top"] sp__law_prices := fd_of X G H__law_prices (fun f fd F => F.binds (ps := ["pot", "deeds", "top"]) fun _ _ _ _ _ _ us hl => match us, hl with | [_, _, _], _ => rfl) fun f fd F => ok__law_prices F T (G__law_take := G__law_take) (G__law_price := G__law_price)
  have G_is_whole : Fd l.prog w K mg base 1 "is_whole" ["thing"] sp_is_whole := fd_of X G H_is_whole (fun f fd F => F.binds (ps := ["thing"]) fun _ _ _ _ _ _ us hl => match us, hl with | [_], _ => rfl) fun f fd F => ok_is_whole F T
  have G_is_between : Fd l.prog w K mg base 2 "is_between" ["thing", "least", "most"] sp_is_between := fd_of X G H_is_between (fun f fd F => F.binds (ps := ["thing", "least", "most"]) fun _ _ _ _ _ _ us hl => match us, hl with | [_, _, _], _ => rfl) fun f fd F => ok_is_between F T (G_is_whole := G_is_whole)
  have G_is_below : Fd l.prog w K mg base 2 "is_below" ["thing", "most"] sp_is_below := fd_of X G H_is_below (fun f fd F => F.binds (ps := ["thing", "most"]) fun _ _ _ _ _ _ us hl => match us, hl with | [_, _], _ => rfl) fun f fd F => ok_is_below F T (G_is_whole := G_is_whole)
  have G_is_answer : Fd l.prog w K mg base 3 "is_answer" ["thing", "many"] sp_is_answer := fd_of X G H_is_answer (fun f fd F => F.binds (ps := ["thing", "many"]) fun _ _ _ _ _ _ us hl => match us, hl with | [_, _], _ => rfl) fun f fd F => ok_is_answer F T (G_is_between := G_is_between) (G_is_below := G_is_below)
  have G_is_ask : Fd l.prog w K mg base 4 "is_ask" ["thing", "many"] sp_is_ask := fd_of X G H_is_ask (fun f fd F => F.binds (ps := ["thing", "many"]) fun _ _ _ _ _ _ us hl => match us, hl with | [_, _], _ => rfl) fun f fd F => ok_is_ask F T (G_is_answer := G_is_answer)
  have G_is_game : Fd l.prog w K mg base 5 "is_game" ["thing"] sp_is_game := fd_of X G H_is_game (fun f fd F => F.binds (ps := ["thing"]) fun _ _ _ _ _ _ us hl => match us, hl with | [_], _ => rfl) fun f fd F => ok_is_game F T (G_is_ask := G_is_ask)
  have G_need_game : Fd l.prog w K mg base 6 "need_game" ["thing"] sp_need_game := fd_of X G H_need_game (fun f fd F => F.binds (ps := ["thing"]) fun _ _ _ _ _ _ us hl => match us, hl with | [_], _ => rfl) fun f fd F => ok_need_game F T (G_is_game := G_is_game)
  have G_dearest : Fd l.prog w K mg base 1 "dearest" ["game"] sp_dearest := fd_of X G H_dearest (fun f fd F => F.binds (ps := ["game"]) fun _ _ _ _ _ _ us hl => match us, hl with | [_], _ => rfl) fun f fd F => ok_dearest F T
  have G_need_narrow : Fd l.prog w K mg base 2 "need_narrow" ["game"] sp_need_narrow := fd_of X G H_need_narrow (fun f fd F => F.binds (ps := ["game"]) fun _ _ _ _ _ _ us hl => match us, hl with | [_], _ => rfl) fun f fd F => ok_need_narrow F T (G_dearest := G_dearest)
  have G_is_met : Fd l.prog w K mg base 1 "is_met" ["ask", "owed", "stands", "levels"] sp_is_met := fd_of X G H_is_met (fun f fd F => F.binds (ps := ["ask", "owed", "stands", "levels"]) fun _ _ _ _ _ _ us hl => match us, hl with | [_, _, _, _], _ => rfl) fun f fd F => ok_is_met F T
  have G_level_behind : Fd l.prog w K mg base 2 "level_behind" ["game", "levels"] sp_level_behind := fd_of X G H_level_behind (fun f fd F => F.binds (ps := ["game", "levels"]) fun _ _ _ _ _ _ us hl => match us, hl with | [_, _], _ => rfl) fun f fd F => ok_level_behind F T (G_is_met := G_is_met)
  have G_totals_of : Fd l.prog w K mg base 3 "totals_of" ["game"] sp_totals_of := fd_of X G H_totals_of (fun f fd F => F.binds (ps := ["game"]) fun _ _ _ _ _ _ us hl => match us, hl with | [_], _ => rfl) fun f fd F => ok_totals_of F T (G_dearest := G_dearest) (G_level_behind := G_level_behind)
  have G_least_of : Fd l.prog w K mg base 1 "least_of" ["ask", "row"] sp_least_of := fd_of X G H_least_of (fun f fd F => F.binds (ps := ["ask", "row"]) fun _ _ _ _ _ _ us hl => match us, hl with | [_, _], _ => rfl) fun f fd F => ok_least_of F T
  have G_least_rows : Fd l.prog w K mg base 2 "least_rows" ["game", "rows", "total"] sp_least_rows := fd_of X G H_least_rows (fun f fd F => F.binds (ps := ["game", "rows", "total"]) fun _ _ _ _ _ _ us hl => match us, hl with | [_, _, _], _ => rfl) fun f fd F => ok_least_rows F T (G_least_of := G_least_of)
  have G_first_forcing : Fd l.prog w K mg base 1 "first_forcing" ["asks", "ends", "ranks"] sp_first_forcing := fd_of X G H_first_forcing (fun f fd F => F.binds (ps := ["asks", "ends", "ranks"]) fun _ _ _ _ _ _ us hl => match us, hl with | [_, _, _], _ => rfl) fun f fd F => ok_first_forcing F T
  have G_endless_rows : Fd l.prog w K mg base 2 "endless_rows" ["game", "ends"] sp_endless_rows := fd_of X G H_endless_rows (fun f fd F => F.binds (ps := ["game", "ends"]) fun _ _ _ _ _ _ us hl => match us, hl with | [_, _], _ => rfl) fun f fd F => ok_endless_rows F T (G_first_forcing := G_first_forcing)
  have G_row_behind : Fd l.prog w K mg base 2 "row_behind" ["game", "row"] sp_row_behind := fd_of X G H_row_behind (fun f fd F => F.binds (ps := ["game", "row"]) fun _ _ _ _ _ _ us hl => match us, hl with | [_, _], _ => rfl) fun f fd F => ok_row_behind F T (G_least_of := G_least_of)
  have G_rows_to : Fd l.prog w K mg base 3 "rows_to" ["game", "total"] sp_rows_to := fd_of X G H_rows_to (fun f fd F => F.binds (ps := ["game", "total"]) fun _ _ _ _ _ _ us hl => match us, hl with | [_, _], _ => rfl) fun f fd F => ok_rows_to F T (G_row_behind := G_row_behind)
  have G_total_or_endless : Fd l.prog w K mg base 7 "total_or_endless" ["game"] sp_total_or_endless := fd_of X G H_total_or_endless (fun f fd F => F.binds (ps := ["game"]) fun _ _ _ _ _ _ us hl => match us, hl with | [_], _ => rfl) fun f fd F => ok_total_or_endless F T (G_need_game := G_need_game) (G_need_narrow := G_need_narrow) (G_totals_of := G_totals_of) (G_least_rows := G_least_rows) (G_endless_rows := G_endless_rows) (G_rows_to := G_rows_to)
  have G__law_some : Fd l.prog w K mg base 3 "_law_some" ["saying", "fees", "kept", "room", "sign", "wanted"] sp__law_some := fd_of X G H__law_some (fun f fd F => F.binds (ps := ["saying", "fees", "kept", "room", "sign", "wanted"]) fun _ _ _ _ _ _ us hl => match us, hl with | [_, _, _, _, _, _], _ => rfl) fun f fd F => ok__law_some F T (G__law_answers := G__law_answers)
  have G__law_answered : Fd l.prog w K mg base 4 "_law_answered" ["saying", "fees", "kept", "pair", "step"] sp__law_answered := fd_of X G H__law_answered (fun f fd F => F.binds (ps := ["saying", "fees", "kept", "pair", "step"]) fun _ _ _ _ _ _ us hl => match us, hl with | [_, _, _, _, _], _ => rfl) fun f fd F => ok__law_answered F T (G__law_some := G__law_some) (G__law_cost := G__law_cost)
  have G__law_asks : Fd l.prog w K mg base 1 "_law_asks" ["saying", "kept", "room"] sp__law_asks := fd_of X G H__law_asks (fun f fd F => F.binds (ps := ["saying", "kept", "room"]) fun _ _ _ _ _ _ us hl => match us, hl with | [_, _, _], _ => rfl) fun f fd F => ok__law_asks F T
  have G__law_never : Fd l.prog w K mg base 5 "_law_never" ["pot", "saying", "fees", "kept", "places", "rows"] sp__law_never := fd_of X G H__law_never (fun f fd F => F.binds (ps := ["pot", "saying", "fees", "kept", "places", "rows"]) fun _ _ _ _ _ _ us hl => match us, hl with | [_, _, _, _, _, _], _ => rfl) fun f fd F => ok__law_never F T (G__law_answered := G__law_answered) (G__law_asks := G__law_asks) (G__law_take := G__law_take)
  have G__law_bounded : Fd l.prog w K mg base 5 "_law_bounded" ["saying", "fees", "kept", "numbers"] sp__law_bounded := fd_of X G H__law_bounded (fun f fd F => F.binds (ps := ["saying", "fees", "kept", "numbers"]) fun _ _ _ _ _ _ us hl => match us, hl with | [_, _, _, _], _ => rfl) fun f fd F => ok__law_bounded F T (G__law_asks := G__law_asks) (G__law_answered := G__law_answered)
  have G__law_whole : Fd l.prog w K mg base 1 "_law_whole" ["found"] sp__law_whole := fd_of X G H__law_whole (fun f fd F => F.binds (ps := ["found"]) fun _ _ _ _ _ _ us hl => match us, hl with | [_], _ => rfl) fun f fd F => ok__law_whole F T
  have G__law_together : Fd l.prog w K mg base 5 "_law_together" ["pot", "saying", "fees", "kept", "numbers", "pair"] sp__law_together := fd_of X G H__law_together (fun f fd F => F.binds (ps := ["pot", "saying", "fees", "kept", "numbers", "pair"]) fun _ _ _ _ _ _ us hl => match us, hl with | [_, _, _, _, _, _], _ => rfl) fun f fd F => ok__law_together F T (G__law_asks := G__law_asks) (G__law_answered := G__law_answered) (G__law_take := G__law_take)
  have G__law_pays : Fd l.prog w K mg base 5 "_law_pays" ["pot", "saying", "fees", "kept", "places", "rows", "total"] sp__law_pays := fd_of X G H__law_pays (fun f fd F => F.binds (ps := ["pot", "saying", "fees", "kept", "places", "rows", "total"]) fun _ _ _ _ _ _ us hl => match us, hl with | [_, _, _, _, _, _, _], _ => rfl) fun f fd F => ok__law_pays F T (G__law_answered := G__law_answered) (G__law_asks := G__law_asks) (G__law_take := G__law_take)
  have G_is_row : Fd l.prog w K mg base 1 "is_row" ["thing", "many"] sp_is_row := fd_of X G H_is_row (fun f fd F => F.binds (ps := ["thing", "many"]) fun _ _ _ _ _ _ us hl => match us, hl with | [_, _], _ => rfl) fun f fd F => ok_is_row F T
  have G_is_count : Fd l.prog w K mg base 2 "is_count" ["thing"] sp_is_count := fd_of X G H_is_count (fun f fd F => F.binds (ps := ["thing"]) fun _ _ _ _ _ _ us hl => match us, hl with | [_], _ => rfl) fun f fd F => ok_is_count F T (G_is_whole := G_is_whole)
  have G_is_room : Fd l.prog w K mg base 3 "is_room" ["thing", "signs", "deeds", "many"] sp_is_room := fd_of X G H_is_room (fun f fd F => F.binds (ps := ["thing", "signs", "deeds", "many"]) fun _ _ _ _ _ _ us hl => match us, hl with | [_, _, _, _], _ => rfl) fun f fd F => ok_is_room F T (G_is_row := G_is_row) (G_is_below := G_is_below)
  have G_is_saying : Fd l.prog w K mg base 4 "is_saying" ["thing"] sp_is_saying := fd_of X G H_is_saying (fun f fd F => F.binds (ps := ["thing"]) fun _ _ _ _ _ _ us hl => match us, hl with | [_], _ => rfl) fun f fd F => ok_is_saying F T (G_is_row := G_is_row) (G_is_count := G_is_count) (G_is_room := G_is_room)
  have G_need_saying : Fd l.prog w K mg base 5 "need_saying" ["thing"] sp_need_saying := fd_of X G H_need_saying (fun f fd F => F.binds (ps := ["thing"]) fun _ _ _ _ _ _ us hl => match us, hl with | [_], _ => rfl) fun f fd F => ok_need_saying F T (G_is_saying := G_is_saying)
  have G_is_price : Fd l.prog w K mg base 2 "is_price" ["thing", "own"] sp_is_price := fd_of X G H_is_price (fun f fd F => F.binds (ps := ["thing", "own"]) fun _ _ _ _ _ _ us hl => match us, hl with | [_, _], _ => rfl) fun f fd F => ok_is_price F T (G_is_whole := G_is_whole)
  have G_are_prices : Fd l.prog w K mg base 3 "are_prices" ["deeds", "thing"] sp_are_prices := fd_of X G H_are_prices (fun f fd F => F.binds (ps := ["deeds", "thing"]) fun _ _ _ _ _ _ us hl => match us, hl with | [_, _], _ => rfl) fun f fd F => ok_are_prices F T (G_is_row := G_is_row) (G_is_price := G_is_price)
  have G_need_prices : Fd l.prog w K mg base 4 "need_prices" ["deeds", "prices"] sp_need_prices := fd_of X G H_need_prices (fun f fd F => F.binds (ps := ["deeds", "prices"]) fun _ _ _ _ _ _ us hl => match us, hl with | [_, _], _ => rfl) fun f fd F => ok_need_prices F T (G_are_prices := G_are_prices)
  have G_need_both : Fd l.prog w K mg base 6 "need_both" ["saying", "prices"] sp_need_both := fd_of X G H_need_both (fun f fd F => F.binds (ps := ["saying", "prices"]) fun _ _ _ _ _ _ us hl => match us, hl with | [_, _], _ => rfl) fun f fd F => ok_need_both F T (G_need_saying := G_need_saying) (G_need_prices := G_need_prices)
  have G_cost : Fd l.prog w K mg base 1 "cost" ["prices", "wanted", "given"] sp_cost := fd_of X G H_cost (fun f fd F => F.binds (ps := ["prices", "wanted", "given"]) fun _ _ _ _ _ _ us hl => match us, hl with | [_, _, _], _ => rfl) fun f fd F => ok_cost F T
  have G_answers_to : Fd l.prog w K mg base 2 "answers_to" ["deeds", "wanted", "prices"] sp_answers_to := fd_of X G H_answers_to (fun f fd F => F.binds (ps := ["deeds", "wanted", "prices"]) fun _ _ _ _ _ _ us hl => match us, hl with | [_, _, _], _ => rfl) fun f fd F => ok_answers_to F T (G_cost := G_cost)
  have G_keepers : Fd l.prog w K mg base 3 "keepers" ["saying", "prices", "good", "room", "sign", "wanted"] sp_keepers := fd_of X G H_keepers (fun f fd F => F.binds (ps := ["saying", "prices", "good", "room", "sign", "wanted"]) fun _ _ _ _ _ _ us hl => match us, hl with | [_, _, _, _, _, _], _ => rfl) fun f fd F => ok_keepers F T (G_answers_to := G_answers_to)
  have G_losing : Fd l.prog w K mg base 4 "losing" ["saying", "prices", "good", "room"] sp_losing := fd_of X G H_losing (fun f fd F => F.binds (ps := ["saying", "prices", "good", "room"]) fun _ _ _ _ _ _ us hl => match us, hl with | [_, _, _, _], _ => rfl) fun f fd F => ok_losing F T (G_keepers := G_keepers)
  have G_lost_in : Fd l.prog w K mg base 5 "lost_in" ["saying", "prices"] sp_lost_in := fd_of X G H_lost_in (fun f fd F => F.binds (ps := ["saying", "prices"]) fun _ _ _ _ _ _ us hl => match us, hl with | [_, _], _ => rfl) fun f fd F => ok_lost_in F T (G_losing := G_losing)
  have G_kept_in : Fd l.prog w K mg base 6 "kept_in" ["saying", "prices"] sp_kept_in := fd_of X G H_kept_in (fun f fd F => F.binds (ps := ["saying", "prices"]) fun _ _ _ _ _ _ us hl => match us, hl with | [_, _], _ => rfl) fun f fd F => ok_kept_in F T (G_lost_in := G_lost_in)
  have G_placed : Fd l.prog w K mg base 1 "placed" ["places", "pair"] sp_placed := fd_of X G H_placed (fun f fd F => F.binds (ps := ["places", "pair"]) fun _ _ _ _ _ _ us hl => match us, hl with | [_, _], _ => rfl) fun f fd F => ok_placed F T
  have G_game_apart : FdK l.prog w K mg base 7 "game_apart" ["saying", "own", "mended", "prices"] ["prices"] 3 (sp_game_apart tp) := by
    obtain ⟨g, oc, od, osl, kV, dc, pm, an, cd, ct, a, l', c, kp⟩ := H_game_by
    have Fg := fun_mk (st := st_game_by) l' c kp
    refine ⟨fA, _, ok_game_apart lA iA TB T (G_need_both := G_need_both) (G_kept_in := G_kept_in) (G_is_below := G_is_below) (G_keepers := G_keepers) (G_cost := G_cost) (G_placed := G_placed) Fg (Fg.binds (ps := ["begin", "asks_of"]) fun _ _ _ _ _ _ us hl => match us, hl with | [_, _], _ => rfl) (PySem.W.mg_of X G a), PySem.W.mg_of X G aA, kA, kb_of (fun us ws h1 h2 => match us, ws, h1, h2 with | [_, _, _], [_], _, _ => rfl) rfl⟩
  have G__law_parted : Fd l.prog w K mg base 8 "_law_parted" ["pot", "saying", "fees", "kept", "own", "other"] (sp__law_parted tp) := fd_of X G H__law_parted (fun f fd F => F.binds (ps := ["pot", "saying", "fees", "kept", "own", "other"]) fun _ _ _ _ _ _ us hl => match us, hl with | [_, _, _, _, _, _], _ => rfl) fun f fd F => ok__law_parted F T (G_total_or_endless := G_total_or_endless) (G__law_never := G__law_never) (G__law_bounded := G__law_bounded) (G__law_whole := G__law_whole) (G__law_together := G__law_together) (G__law_pays := G__law_pays) (G_game_apart := G_game_apart)
  exact ok_law (fun_mk (st := st_law) lL iL kL) T (G__law_pot := G__law_pot) (G__law_saying := G__law_saying) (G__law_kept := G__law_kept) (G__law_take := G__law_take) (G__law_prices := G__law_prices) (G__law_parted := G__law_parted)
end MW

end
open PySem PySem.W PyProof.Rows in
set_option maxRecDepth 100000 in
set_option maxHeartbeats 0 in
set_option pp.maxSteps 300 in
theorem PySem.Challenge.cw_mildwarden_k96_whole_apart_and_together_holds : PySem.Challenge.rw_mildwarden_k96_whole_apart_and_together.Holds := by
  w_on; o_law; k_head; (case hw => w_witness2)
  k_fill
  refine LamX.walk_ofTs (l := PySem.Challenge.rw_mildwarden_k96_whole_apart_and_together) (n := 63) (k := 9) (x := "script") (CX := fun _ => L2.CX0) rfl (by decide) rfl ⟨rfl, by decide, by decide⟩ (fun w h Y => PySem.W.km_in_of Y) ?F (fun _ _ _ _ _ z => z)
  case F =>
    intro w mg fa h Y KX G hmg
    have hT := PySem.W.km_tabs_of Y
    refine' MW.law_at (tp := 209) KX G hmg ?H__law_pot ?H__law_take ?H__law_room ?H__law_saying ?H__law_cost ?H__law_answers ?H__law_held ?H__law_kept ?H__law_price ?H__law_prices ?H_is_whole ?H_is_between ?H_is_below ?H_is_answer ?H_is_ask ?H_is_game ?H_need_game ?H_dearest ?H_need_narrow ?H_is_met ?H_level_behind ?H_totals_of ?H_least_of ?H_least_rows ?H_first_forcing ?H_endless_rows ?H_row_behind ?H_rows_to ?H_total_or_endless ?H__law_some ?H__law_answered ?H__law_asks ?H__law_never ?H__law_bounded ?H__law_whole ?H__law_together ?H__law_pays ?H_is_row ?H_is_count ?H_is_room ?H_is_saying ?H_need_saying ?H_is_price ?H_are_prices ?H_need_prices ?H_need_both ?H_cost ?H_answers_to ?H_keepers ?H_losing ?H_lost_in ?H_kept_in ?H_placed ?H__law_parted ?H_game_by ?Z_len ?Z_isinstance ?Z_range ?Z_tuple ?Z_list ?Z_int ?Z_bool ?Z_all ?Z_any ?Z_max ?Z_min ?Z_abs ?Z_dict ?Z_enumerate ?Z_sorted ?Z_MOST ?Z_WIDE ?Z_DEAR ?Z_MOST_ASKS ?Z_MOST_ANSWERS ?Z_BROAD ?aA ?lA ?iA ?kA ?aL ?lL ?iL ?kL ?hd ?nt ?ht
    (case H__law_pot => refine' MW.had_mk ?a ?l ?c ?k; (case a => k_is); (case l => k_is); (case c => k_is); (case k => k_is))
    (case H__law_take => refine' MW.had_mk ?a ?l ?c ?k; (case a => k_is); (case l => k_is); (case c => k_is); (case k => k_is))
    (case H__law_room => refine' MW.had_mk ?a ?l ?c ?k; (case a => k_is); (case l => k_is); (case c => k_is); (case k => k_is))
    (case H__law_saying => refine' MW.had_mk ?a ?l ?c ?k; (case a => k_is); (case l => k_is); (case c => k_is); (case k => k_is))
    (case H__law_cost => refine' MW.had_mk ?a ?l ?c ?k; (case a => k_is); (case l => k_is); (case c => k_is); (case k => k_is))
    (case H__law_answers => refine' MW.had_mk ?a ?l ?c ?k; (case a => k_is); (case l => k_is); (case c => k_is); (case k => k_is))
    (case H__law_held => refine' MW.had_mk ?a ?l ?c ?k; (case a => k_is); (case l => k_is); (case c => k_is); (case k => k_is))
    (case H__law_kept => refine' MW.had_mk ?a ?l ?c ?k; (case a => k_is); (case l => k_is); (case c => k_is); (case k => k_is))
    (case H__law_price => refine' MW.had_mk ?a ?l ?c ?k; (case a => k_is); (case l => k_is); (case c => k_is); (case k => k_is))
    (case H__law_prices => refine' MW.had_mk ?a ?l ?c ?k; (case a => k_is); (case l => k_is); (case c => k_is); (case k => k_is))
    (case H_is_whole => refine' MW.had_mk ?a ?l ?c ?k; (case a => k_is); (case l => k_is); (case c => k_is); (case k => k_is))
    (case H_is_between => refine' MW.had_mk ?a ?l ?c ?k; (case a => k_is); (case l => k_is); (case c => k_is); (case k => k_is))
    (case H_is_below => refine' MW.had_mk ?a ?l ?c ?k; (case a => k_is); (case l => k_is); (case c => k_is); (case k => k_is))
    (case H_is_answer => refine' MW.had_mk ?a ?l ?c ?k; (case a => k_is); (case l => k_is); (case c => k_is); (case k => k_is))
    (case H_is_ask => refine' MW.had_mk ?a ?l ?c ?k; (case a => k_is); (case l => k_is); (case c => k_is); (case k => k_is))
    (case H_is_game => refine' MW.had_mk ?a ?l ?c ?k; (case a => k_is); (case l => k_is); (case c => k_is); (case k => k_is))
    (case H_need_game => refine' MW.had_mk ?a ?l ?c ?k; (case a => k_is); (case l => k_is); (case c => k_is); (case k => k_is))
    (case H_dearest => refine' MW.had_mk ?a ?l ?c ?k; (case a => k_is); (case l => k_is); (case c => k_is); (case k => k_is))
    (case H_need_narrow => refine' MW.had_mk ?a ?l ?c ?k; (case a => k_is); (case l => k_is); (case c => k_is); (case k => k_is))
    (case H_is_met => refine' MW.had_mk ?a ?l ?c ?k; (case a => k_is); (case l => k_is); (case c => k_is); (case k => k_is))
    (case H_level_behind => refine' MW.had_mk ?a ?l ?c ?k; (case a => k_is); (case l => k_is); (case c => k_is); (case k => k_is))
    (case H_totals_of => refine' MW.had_mk ?a ?l ?c ?k; (case a => k_is); (case l => k_is); (case c => k_is); (case k => k_is))
    (case H_least_of => refine' MW.had_mk ?a ?l ?c ?k; (case a => k_is); (case l => k_is); (case c => k_is); (case k => k_is))
    (case H_least_rows => refine' MW.had_mk ?a ?l ?c ?k; (case a => k_is); (case l => k_is); (case c => k_is); (case k => k_is))
    (case H_first_forcing => refine' MW.had_mk ?a ?l ?c ?k; (case a => k_is); (case l => k_is); (case c => k_is); (case k => k_is))
    (case H_endless_rows => refine' MW.had_mk ?a ?l ?c ?k; (case a => k_is); (case l => k_is); (case c => k_is); (case k => k_is))
    (case H_row_behind => refine' MW.had_mk ?a ?l ?c ?k; (case a => k_is); (case l => k_is); (case c => k_is); (case k => k_is))
    (case H_rows_to => refine' MW.had_mk ?a ?l ?c ?k; (case a => k_is); (case l => k_is); (case c => k_is); (case k => k_is))
    (case H_total_or_endless => refine' MW.had_mk ?a ?l ?c ?k; (case a => k_is); (case l => k_is); (case c => k_is); (case k => k_is))
    (case H__law_some => refine' MW.had_mk ?a ?l ?c ?k; (case a => k_is); (case l => k_is); (case c => k_is); (case k => k_is))
    (case H__law_answered => refine' MW.had_mk ?a ?l ?c ?k; (case a => k_is); (case l => k_is); (case c => k_is); (case k => k_is))
    (case H__law_asks => refine' MW.had_mk ?a ?l ?c ?k; (case a => k_is); (case l => k_is); (case c => k_is); (case k => k_is))
    (case H__law_never => refine' MW.had_mk ?a ?l ?c ?k; (case a => k_is); (case l => k_is); (case c => k_is); (case k => k_is))
    (case H__law_bounded => refine' MW.had_mk ?a ?l ?c ?k; (case a => k_is); (case l => k_is); (case c => k_is); (case k => k_is))
    (case H__law_whole => refine' MW.had_mk ?a ?l ?c ?k; (case a => k_is); (case l => k_is); (case c => k_is); (case k => k_is))
    (case H__law_together => refine' MW.had_mk ?a ?l ?c ?k; (case a => k_is); (case l => k_is); (case c => k_is); (case k => k_is))
    (case H__law_pays => refine' MW.had_mk ?a ?l ?c ?k; (case a => k_is); (case l => k_is); (case c => k_is); (case k => k_is))
    (case H_is_row => refine' MW.had_mk ?a ?l ?c ?k; (case a => k_is); (case l => k_is); (case c => k_is); (case k => k_is))
    (case H_is_count => refine' MW.had_mk ?a ?l ?c ?k; (case a => k_is); (case l => k_is); (case c => k_is); (case k => k_is))
    (case H_is_room => refine' MW.had_mk ?a ?l ?c ?k; (case a => k_is); (case l => k_is); (case c => k_is); (case k => k_is))
    (case H_is_saying => refine' MW.had_mk ?a ?l ?c ?k; (case a => k_is); (case l => k_is); (case c => k_is); (case k => k_is))
    (case H_need_saying => refine' MW.had_mk ?a ?l ?c ?k; (case a => k_is); (case l => k_is); (case c => k_is); (case k => k_is))
    (case H_is_price => refine' MW.had_mk ?a ?l ?c ?k; (case a => k_is); (case l => k_is); (case c => k_is); (case k => k_is))
    (case H_are_prices => refine' MW.had_mk ?a ?l ?c ?k; (case a => k_is); (case l => k_is); (case c => k_is); (case k => k_is))
    (case H_need_prices => refine' MW.had_mk ?a ?l ?c ?k; (case a => k_is); (case l => k_is); (case c => k_is); (case k => k_is))
    (case H_need_both => refine' MW.had_mk ?a ?l ?c ?k; (case a => k_is); (case l => k_is); (case c => k_is); (case k => k_is))
    (case H_cost => refine' MW.had_mk ?a ?l ?c ?k; (case a => k_is); (case l => k_is); (case c => k_is); (case k => k_is))
    (case H_answers_to => refine' MW.had_mk ?a ?l ?c ?k; (case a => k_is); (case l => k_is); (case c => k_is); (case k => k_is))
    (case H_keepers => refine' MW.had_mk ?a ?l ?c ?k; (case a => k_is); (case l => k_is); (case c => k_is); (case k => k_is))
    (case H_losing => refine' MW.had_mk ?a ?l ?c ?k; (case a => k_is); (case l => k_is); (case c => k_is); (case k => k_is))
    (case H_lost_in => refine' MW.had_mk ?a ?l ?c ?k; (case a => k_is); (case l => k_is); (case c => k_is); (case k => k_is))
    (case H_kept_in => refine' MW.had_mk ?a ?l ?c ?k; (case a => k_is); (case l => k_is); (case c => k_is); (case k => k_is))
    (case H_placed => refine' MW.had_mk ?a ?l ?c ?k; (case a => k_is); (case l => k_is); (case c => k_is); (case k => k_is))
    (case H__law_parted => refine' MW.had_mk ?a ?l ?c ?k; (case a => k_is); (case l => k_is); (case c => k_is); (case k => k_is))
    (case H_game_by => refine' MW.had_mk ?a ?l ?c ?k; (case a => k_is); (case l => k_is); (case c => k_is); (case k => k_is))
    (case Z_len => k_is)
    (case Z_isinstance => k_is)
    (case Z_range => k_is)
    (case Z_tuple => k_is)
    (case Z_list => k_is)
    (case Z_int => k_is)
    (case Z_bool => k_is)
    (case Z_all => k_is)
    (case Z_any => k_is)
    (case Z_max => k_is)
    (case Z_min => k_is)
    (case Z_abs => k_is)
    (case Z_dict => k_is)
    (case Z_enumerate => k_is)
    (case Z_sorted => k_is)
    (case Z_MOST => refine' MW.ex_mk ?eMOST; (case eMOST => k_is))
    (case Z_WIDE => refine' MW.ex_mk ?eWIDE; (case eWIDE => k_is))
    (case Z_DEAR => refine' MW.ex_mk ?eDEAR; (case eDEAR => k_is))
    (case Z_MOST_ASKS => refine' MW.ex_mk ?eMOST_ASKS; (case eMOST_ASKS => k_is))
    (case Z_MOST_ANSWERS => refine' MW.ex_mk ?eMOST_ANSWERS; (case eMOST_ANSWERS => k_is))
    (case Z_BROAD => refine' MW.ex_mk ?eBROAD; (case eBROAD => k_is))
    (case aA => k_is)
    (case lA => k_is)
    (case iA => k_is)
    (case kA => k_is)
    (case aL => k_is)
    (case lL => k_is)
    (case iL => k_is)
    (case kL => k_is)
    (case hd => kernel_rfl)
    (case nt => kernel_rfl)
    (case ht => exact hT _ (List.mem_singleton.mpr rfl))
