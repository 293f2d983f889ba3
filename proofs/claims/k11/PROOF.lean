import PyProof.Rows.All
import Wide.All
import OpenK.AllK
import Wide.FinOn
import HandS.ForMost
import HandS.Wide
import HandS.Star
import HandS.TupAny
import HandS.TupMul
import HandS.Deep
import HandS.Style
import HandS.IsInst
import HandS.Conv
import HandS.Zip
import HandS.Text
import HandS.Dict
import PyProof.Rows.RegReprOcc
import KE.KTupSum
import HandS.Zip0
import HandS.Defaults
import HandS.WordsDict
import HandS.TupLen
import HandS.SortInts
import HandS.SortRule
import KE.KRevSl
import PyProof.SliceStr2
import KE.KDictSum
import HandS.TupSets
import HandS.DictTup
import KE.KDictDisplayH
import HandS.Codes
import HandS.SetFor
import HandS.Strs
import HandS.GenBody
import HandS.GenYield
import HandS.GenCall
import HandS.GenList
import PyProof.GenComp
import PyProof.StrOps2
import PyProof.ListStr
import PyProof.EnumMake
import PyProof.Draws
import KE.GoesMore
import PySem.Challenge.RW_sideouts_k11_whole_sheets_of_few_rallies
set_option Elab.async false
set_option linter.all false
set_option maxRecDepth 100000
set_option maxHeartbeats 4000000
/-! The data layer: values as data (tuples and untouched lists by value), an owned store of what may change. -/
namespace DL
open PySem PySem.Spec PyProof.Rows L2

inductive D where
  | non | bl (b : Bool) | int (i : Int) | str (x : Str) | tup (xs : List D) | lst (xs : List D) | fz (xs : List D) | ref (a : Addr)

/-- what may change -/
inductive MO where
  | lst (xs : List D) | dK (kvs : List (Key × D)) | dT (kvs : List (List Key × D)) | ins (C : Addr) (fs : List (Str × D))
  /-- kept from sight: a list under way -/
  | hid
abbrev Sto := Addr → Option MO
def updS (S : Sto) (a : Addr) (o : MO) : Sto := fun b => if b = a then some o else S b
/-- what is seen -/
def vis (S : Sto) : Sto := fun b => match S b with
  | some .hid => none
  | m => m
def eraS (S : Sto) (a : Addr) : Sto := fun b => if b = a then none else S b
def S0 : Sto := fun _ => none
theorem updS_same {S : Sto} {a : Addr} {o : MO} : updS S a o a = some o := by unfold updS; rw [if_pos rfl]
theorem updS_ne {S : Sto} {a b : Addr} {o : MO} (h : b ≠ a) : updS S a o b = S b := by unfold updS; rw [if_neg h]
theorem updS_updS {S : Sto} {a : Addr} {o u : MO} : updS (updS S a o) a u = updS S a u := by
  funext b; unfold updS; split <;> rfl
theorem updS_comm {S : Sto} {a b : Addr} {o u : MO} (h : a ≠ b) : updS (updS S a o) b u = updS (updS S b u) a o := by
  funext c; unfold updS
  by_cases h1 : c = b
  · subst h1; rw [if_pos rfl, if_neg (Ne.symm h), if_pos rfl]
  · rw [if_neg h1, if_neg h1]

theorem vis_of {S : Sto} {a : Addr} {m : MO} (h : vis S a = some m) : S a = some m ∧ m ≠ .hid := by
  unfold vis at h
  cases e : S a with
  | none => rw [e] at h; cases h
  | some u =>
    rw [e] at h
    cases u with
    | hid => cases h
    | _ => exact ⟨h, by cases h; intro z; cases z⟩
theorem vis_none {S : Sto} {a : Addr} (h : S a = none) : vis S a = none := by unfold vis; rw [h]
theorem vis_upd {S : Sto} {a : Addr} {m : MO} (h : m ≠ .hid) : vis (updS S a m) = updS (vis S) a m := by
  funext b
  unfold vis updS
  by_cases e : b = a
  · rw [if_pos e, if_pos e]
    cases m with
    | hid => exact absurd rfl h
    | _ => rfl
  · rw [if_neg e, if_neg e]
theorem vis_hid {S : Sto} {a : Addr} (h : S a = none) : vis (updS S a .hid) = vis S := by
  funext b
  unfold vis updS
  by_cases e : b = a
  · subst e; rw [if_pos rfl, h]
  · rw [if_neg e]
theorem vis_S0 : vis S0 = S0 := rfl
/-- all that stands and isn't owned stays, and stays unowned -/
def Keep (H : Hp) (S : Sto) (H' : Hp) (S' : Sto) : Prop := ∀ a o, H a = some o → S a = none → H' a = some o ∧ S' a = none
theorem Keep.refl {H : Hp} {S : Sto} : Keep H S H S := fun _ _ h n => ⟨h, n⟩
theorem Keep.trans {H H1 H2 : Hp} {S S1 S2 : Sto} (a : Keep H S H1 S1) (b : Keep H1 S1 H2 S2) : Keep H S H2 S2 := fun x o h n =>
  let ⟨h1, n1⟩ := a x o h n
  b x o h1 n1
/-- so does what is kept from sight -/
structure Step (H : Hp) (S : Sto) (H' : Hp) (S' : Sto) : Prop where
  keep : Keep H S H' S'
  hid : ∀ a, S a = some .hid → H' a = H a ∧ S' a = some .hid
theorem Step.refl {H : Hp} {S : Sto} : Step H S H S := ⟨fun _ _ h n => ⟨h, n⟩, fun _ h => ⟨rfl, h⟩⟩
theorem Step.trans {H H1 H2 : Hp} {S S1 S2 : Sto} (a : Step H S H1 S1) (b : Step H1 S1 H2 S2) : Step H S H2 S2 := ⟨fun x o h n =>
  let ⟨h1, n1⟩ := a.keep x o h n
  b.keep x o h1 n1, fun x h =>
  let ⟨h1, n1⟩ := a.hid x h
  let ⟨h2, n2⟩ := b.hid x n1
  ⟨h2.trans h1, n2⟩⟩

mutual
inductive Rep (K : PySem.W.Frag) (H : Hp) (S : Sto) : V → D → Prop
  | non : Rep K H S .non .non
  | bl (b : Bool) : Rep K H S (.bl b) (.bl b)
  | int (i : Int) : Rep K H S (.int i) (.int i)
  | str (x : Str) : Rep K H S (.str x) (.str x)
  | ref (a : Addr) : Rep K H S (.ref a) (.ref a)
  | tup {a : Addr} {vs : List V} {ds : List D} : H a = some (.tup vs) → S a = none → RepL K H S vs ds → Rep K H S (.ref a) (.tup ds)
  | lst {a : Addr} {vs : List V} {ds : List D} : H a = some (.lst vs) → S a = none → RepL K H S vs ds → Rep K H S (.ref a) (.lst ds)
  | fz {a : Addr} {vs : List V} {ds : List D} : (∀ H' S', Keep H S H' S' → SqL K H' a vs) → RepL K H S vs ds → Rep K H S (.ref a) (.fz ds)
inductive RepL (K : PySem.W.Frag) (H : Hp) (S : Sto) : List V → List D → Prop
  | nil : RepL K H S [] []
  | cons {v : V} {vs : List V} {d : D} {ds : List D} : Rep K H S v d → RepL K H S vs ds → RepL K H S (v :: vs) (d :: ds)
end

section
variable {K : PySem.W.Frag} {H H' : Hp} {S S' : Sto}
mutual
theorem Rep.monoK (st : Keep H S H' S') : ∀ {v : V} {d : D}, Rep K H S v d → Rep K H' S' v d
  | _, _, .non => .non
  | _, _, .bl b => .bl b
  | _, _, .int i => .int i
  | _, _, .str x => .str x
  | _, _, .ref a => .ref a
  | _, _, .tup h n r => let ⟨h1, n1⟩ := st _ _ h n; .tup h1 n1 (RepL.monoK st r)
  | _, _, .lst h n r => let ⟨h1, n1⟩ := st _ _ h n; .lst h1 n1 (RepL.monoK st r)
  | _, _, .fz h r => .fz (fun H2 S2 st2 => h H2 S2 (st.trans st2)) (RepL.monoK st r)
theorem RepL.monoK (st : Keep H S H' S') : ∀ {vs : List V} {ds : List D}, RepL K H S vs ds → RepL K H' S' vs ds
  | _, _, .nil => .nil
  | _, _, .cons r t => .cons (Rep.monoK st r) (RepL.monoK st t)
end
theorem Rep.mono (st : Step H S H' S') {v : V} {d : D} (r : Rep K H S v d) : Rep K H' S' v d := r.monoK st.keep
theorem RepL.mono (st : Step H S H' S') {v : List V} {d : List D} (r : RepL K H S v d) : RepL K H' S' v d := r.monoK st.keep
theorem RepL.length : ∀ {vs : List V} {ds : List D}, RepL K H S vs ds → vs.length = ds.length
  | _, _, .nil => rfl
  | _, _, .cons _ t => by rw [List.length_cons, List.length_cons, RepL.length t]
theorem RepL.get : ∀ {vs : List V} {ds : List D} {i : Nat} {d : D}, RepL K H S vs ds → ds[i]? = some d → ∃ v, vs[i]? = some v ∧ Rep K H S v d
  | _, _, _, _, .nil, e => by simp at e
  | _, _, 0, _, .cons r _, e => by simp at e; subst e; exact ⟨_, rfl, r⟩
  | _, _, i + 1, d, .cons _ t, e => by
    obtain ⟨v, h1, h2⟩ := RepL.get (i := i) t (by simpa using e)
    exact ⟨v, by simpa using h1, h2⟩
theorem RepL.append : ∀ {vs ws : List V} {ds es : List D}, RepL K H S vs ds → RepL K H S ws es → RepL K H S (vs ++ ws) (ds ++ es)
  | _, _, _, _, .nil, s => s
  | _, _, _, _, .cons r t, s => .cons r (RepL.append t s)
theorem RepL.take : ∀ {vs : List V} {ds : List D} (n : Nat), RepL K H S vs ds → RepL K H S (vs.take n) (ds.take n)
  | _, _, 0, _ => by simp only [List.take_zero]; exact .nil
  | _, _, _ + 1, .nil => .nil
  | _, _, n + 1, .cons r t => .cons r (RepL.take n t)
theorem RepL.drop : ∀ {vs : List V} {ds : List D} (n : Nat), RepL K H S vs ds → RepL K H S (vs.drop n) (ds.drop n)
  | _, _, 0, r => r
  | _, _, _ + 1, .nil => .nil
  | _, _, n + 1, .cons _ t => RepL.drop n t
theorem RepL.set {v : V} {d : D} (r : Rep K H S v d) : ∀ {vs : List V} {ds : List D} (i : Nat), RepL K H S vs ds → RepL K H S (vs.set i v) (ds.set i d)
  | _, _, _, .nil => .nil
  | _, _, 0, .cons _ t => .cons r t
  | _, _, i + 1, .cons q t => .cons q (RepL.set r i t)
theorem RepL.eraseIdx : ∀ {vs : List V} {ds : List D} (i : Nat), RepL K H S vs ds → RepL K H S (vs.eraseIdx i) (ds.eraseIdx i)
  | _, _, _, .nil => .nil
  | _, _, 0, .cons _ t => t
  | _, _, i + 1, .cons q t => .cons q (RepL.eraseIdx i t)
theorem RepL.split : ∀ {ds es : List D} {vs : List V}, RepL K H S vs (ds ++ es) → ∃ v1 v2, vs = v1 ++ v2 ∧ RepL K H S v1 ds ∧ RepL K H S v2 es
  | [], es, vs, r => ⟨[], vs, rfl, .nil, r⟩
  | d :: ds, es, _, .cons r t => by
    obtain ⟨v1, v2, e, r1, r2⟩ := RepL.split (ds := ds) t
    exact ⟨_ :: v1, v2, by rw [e]; rfl, .cons r r1, r2⟩
theorem RepL.ints {ns : List Int} : RepL K H S (ns.map V.int) (ns.map D.int) := by
  induction ns with
  | nil => exact .nil
  | cons n r ih => exact .cons (.int n) ih
theorem RepL.ints_of : ∀ {ns : List Int} {vs : List V}, RepL K H S vs (ns.map D.int) → vs = ns.map V.int
  | [], _, .nil => rfl
  | n :: r, _, .cons h t => by
    cases h
    rw [RepL.ints_of t]
    rfl
theorem RepL.bls_of : ∀ {ns : List Bool} {vs : List V}, RepL K H S vs (ns.map D.bl) → vs = ns.map V.bl
  | [], _, .nil => rfl
  | n :: r, _, .cons h t => by
    cases h
    rw [RepL.bls_of t]
    rfl
theorem RepL.strs_of : ∀ {ns : List Str} {vs : List V}, RepL K H S vs (ns.map D.str) → vs = ns.map V.str
  | [], _, .nil => rfl
  | n :: r, _, .cons h t => by
    cases h
    rw [RepL.strs_of t]
    rfl
theorem RepL.strs {ns : List Str} : RepL K H S (ns.map V.str) (ns.map D.str) := by
  induction ns with
  | nil => exact .nil
  | cons n r ih => exact .cons (.str n) ih
end

/-! ### the owned store -/
abbrev RepKV (K : PySem.W.Frag) (H : Hp) (S : Sto) {κ : Type} (vs : List (κ × V)) (ds : List (κ × D)) : Prop := Paired (fun (p : κ × V) (q : κ × D) => p.1 = q.1 ∧ Rep K H S p.2 q.2) vs ds
def RepM (K : PySem.W.Frag) (H : Hp) (S : Sto) (a : Addr) : MO → Prop
  | .lst ds => ∃ vs, H a = some (.lst vs) ∧ RepL K H S vs ds
  | .dK kvs => ∃ vs, H a = some (.dK vs) ∧ RepKV K H S vs kvs
  | .dT kvs => ∃ vs, H a = some (.dT vs) ∧ RepKV K H S vs kvs
  | .ins C fs => ∃ dx vs, H a = some (.ins C dx vs) ∧ RepKV K H S vs fs
  | .hid => (∃ vs, H a = some (.lst vs)) ∨ ∃ o u, H a = some (.frz o u)
/-- the world: what is owned stands so -/
def Wd (K : PySem.W.Frag) (H : Hp) (S : Sto) : Prop := ∀ a m, S a = some m → RepM K H S a m
theorem paired_imp {α β : Type} {F G : α → β → Prop} (h : ∀ a b, F a b → G a b) : ∀ {l₁ : List α} {l₂ : List β}, Paired F l₁ l₂ → Paired G l₁ l₂
  | _, _, .nil => .nil
  | _, _, .cons r t => .cons (h _ _ r) (paired_imp h t)
section
variable {K : PySem.W.Frag} {H H' : Hp} {S S' : Sto} {a : Addr} {m : MO}
theorem RepKV.monoK {κ : Type} {vs : List (κ × V)} {ds : List (κ × D)} (st : Keep H S H' S') (r : RepKV K H S vs ds) : RepKV K H' S' vs ds := paired_imp (fun _ _ h => ⟨h.1, h.2.monoK st⟩) r
/-- an owned object that stands as before -/
theorem RepM.monoK (st : Keep H S H' S') (e : H' a = H a) (r : RepM K H S a m) : RepM K H' S' a m := by
  cases m with
  | lst ds => obtain ⟨vs, h, q⟩ := r; exact ⟨vs, e.trans h, q.monoK st⟩
  | dK kvs => obtain ⟨vs, h, q⟩ := r; exact ⟨vs, e.trans h, RepKV.monoK st q⟩
  | dT kvs => obtain ⟨vs, h, q⟩ := r; exact ⟨vs, e.trans h, RepKV.monoK st q⟩
  | ins C fs => obtain ⟨dx, vs, h, q⟩ := r; exact ⟨dx, vs, e.trans h, RepKV.monoK st q⟩
  | hid =>
    rcases r with ⟨vs, h⟩ | ⟨o, u, h⟩
    · exact .inl ⟨vs, e.trans h⟩
    · exact .inr ⟨o, u, e.trans h⟩
theorem RepM.mono (st : Step H S H' S') (e : H' a = H a) (r : RepM K H S a m) : RepM K H' S' a m := r.monoK st.keep e
theorem RepM.there (r : RepM K H S a m) : ∃ o, H a = some o := by
  cases m with
  | lst ds => obtain ⟨vs, h, q⟩ := r; exact ⟨_, h⟩
  | dK kvs => obtain ⟨vs, h, q⟩ := r; exact ⟨_, h⟩
  | dT kvs => obtain ⟨vs, h, q⟩ := r; exact ⟨_, h⟩
  | ins C fs => obtain ⟨dx, vs, h, q⟩ := r; exact ⟨_, h⟩
  | hid => rcases r with ⟨vs, h⟩ | ⟨o, u, h⟩ <;> exact ⟨_, h⟩
theorem Wd.free (w : Wd K H S) (h : H a = none) : S a = none := by
  cases e : S a with
  | none => rfl
  | some m =>
    obtain ⟨o, q⟩ := (w a m e).there
    rw [h] at q; cases q
theorem Wd.S0 : Wd K H S0 := fun a m h => by cases h
theorem Wd.neS (w : Wd K H S) (h : H a = none) {b : Addr} {u : MO} (e : S b = some u) : b ≠ a := fun z => by
  rw [z, w.free h] at e; cases e
/-- a new object, not owned -/
theorem Step.new {o : HO} (w : Wd K H S) (h : H a = none) : Step H S (upd H a o) S := ⟨fun b u e n => ⟨by rw [upd_ne (ne_of_none e h)]; exact e, n⟩, fun b e => ⟨upd_ne (w.neS h e), e⟩⟩
theorem Wd.new {o : HO} (w : Wd K H S) (h : H a = none) : Wd K (upd H a o) S := fun b m e => by
  obtain ⟨u, q⟩ := (w b m e).there
  exact (w b m e).mono (Step.new w h) (upd_ne (ne_of_none q h))
/-- a new object, owned -/
theorem Step.newS {o : HO} (w : Wd K H S) (h : H a = none) : Step H S (upd H a o) (updS S a m) := ⟨fun b u e n => ⟨by rw [upd_ne (ne_of_none e h)]; exact e, by rw [updS_ne (ne_of_none e h)]; exact n⟩,
  fun b e => ⟨upd_ne (w.neS h e), by rw [updS_ne (w.neS h e)]; exact e⟩⟩
theorem Wd.newS {o : HO} (w : Wd K H S) (h : H a = none) (r : RepM K (upd H a o) (updS S a m) a m) : Wd K (upd H a o) (updS S a m) := fun b u e => by
  by_cases hb : b = a
  · subst hb; rw [updS_same] at e; cases e; exact r
  · rw [updS_ne hb] at e
    exact (w b u e).mono (Step.newS w h) (upd_ne hb)
/-- an owned object is changed -/
theorem Step.chg {o : HO} {m' : MO} (h : S a = some m') (hm : m' ≠ .hid) : Step H S (upd H a o) (updS S a m) := ⟨fun b u e n => by
  have hb : b ≠ a := fun z => by subst z; rw [h] at n; cases n
  exact ⟨by rw [upd_ne hb]; exact e, by rw [updS_ne hb]; exact n⟩, fun b e => by
  have hb : b ≠ a := fun z => by subst z; rw [h] at e; cases e; exact hm rfl
  exact ⟨upd_ne hb, by rw [updS_ne hb]; exact e⟩⟩
theorem Wd.chg {o : HO} {m' : MO} (w : Wd K H S) (h : S a = some m') (hm : m' ≠ .hid) (r : RepM K (upd H a o) (updS S a m) a m) : Wd K (upd H a o) (updS S a m) := fun b u e => by
  by_cases hb : b = a
  · subst hb; rw [updS_same] at e; cases e; exact r
  · rw [updS_ne hb] at e
    exact (w b u e).mono (Step.chg h hm) (upd_ne hb)
/-- a list kept from sight grows -/
theorem Keep.grow {o : HO} (h : S a = some .hid) : Keep H S (upd H a o) S := fun b u e n => ⟨by rw [upd_ne (fun z => by rw [z, h] at n; cases n)]; exact e, n⟩
theorem Wd.grow {vs : List V} (w : Wd K H S) (h : S a = some .hid) : Wd K (upd H a (.lst vs)) S := fun b m e => by
  by_cases hb : b = a
  · subst hb; rw [h] at e; cases e; exact .inl ⟨vs, upd_same⟩
  · exact (w b m e).monoK (Keep.grow h) (upd_ne hb)
theorem Keep.era : Keep H S H (eraS S a) := fun b u e n => ⟨e, by unfold eraS; split; rfl; exact n⟩
theorem Wd.era (w : Wd K H S) : Wd K H (eraS S a) := fun b m e => by
  unfold eraS at e
  split at e
  · cases e
  · exact (w b m e).monoK Keep.era rfl
theorem vis_era (h : S a = some .hid) : vis (eraS S a) = vis S := by
  funext b
  unfold vis eraS
  by_cases e : b = a
  · subst e; rw [if_pos rfl, h]
  · rw [if_neg e]
/-- less is owned -/
def Sub (S' S : Sto) : Prop := ∀ a m, S' a = some m → S a = some m
theorem Sub.refl {S : Sto} : Sub S S := fun _ _ h => h
theorem Sub.none {S' S : Sto} (h : Sub S' S) {a : Addr} (n : S a = Option.none) : S' a = Option.none := by
  cases e : S' a with
  | none => rfl
  | some m => rw [h a m e] at n; cases n
/-- less is seen, the unseen stays -/
def under (S' S : Sto) : Sto := fun b => match S b with
  | some .hid => some .hid
  | _ => S' b
theorem under_vis {S' S : Sto} (h : Sub S' (vis S)) : vis (under S' S) = S' := by
  funext b
  unfold vis under
  cases e : S b with
  | none =>
    have n : S' b = none := h.none (vis_none e)
    simp only [n]
  | some m =>
    cases m with
    | hid =>
      have z : vis S b = none := by unfold vis; rw [e]
      simp only [h.none z]
    | _ =>
      simp only
      cases e2 : S' b with
      | none => rfl
      | some u =>
        have q := vis_of (h b u e2)
        cases u with
        | hid => exact absurd rfl q.2
        | _ => rfl
theorem under_sub {S' S : Sto} (h : Sub S' (vis S)) : Sub (under S' S) S := fun b m e => by
  unfold under at e
  cases q : S b with
  | none =>
    rw [q] at e
    have n : S' b = none := h.none (vis_none q)
    simp only [n] at e; cases e
  | some u =>
    rw [q] at e
    cases u with
    | hid => exact e
    | _ =>
      have z := (vis_of (h b m e)).1
      rw [q] at z; exact z
theorem under_step {S' S : Sto} (h : Sub S' (vis S)) : Step H S H (under S' S) := ⟨fun b u e n => ⟨e, (under_sub h).none n⟩, fun b e => ⟨rfl, by unfold under; rw [e]⟩⟩
theorem Wd.under {S' : Sto} (w : Wd K H S) (h : Sub S' (vis S)) : Wd K H (under S' S) := fun b u e => (w b u (under_sub h b u e)).mono (under_step h) rfl
theorem Sub.era {a : Addr} : Sub (eraS S a) S := fun b m h => by
  unfold eraS at h
  split at h
  · cases h
  · exact h
end

/-! ### the names' values -/
abbrev DSt := List (Option D)
def RepO (K : PySem.W.Frag) (H : Hp) (S : Sto) : Option V → Option D → Prop
  | _, none => True
  | some v, some d => Rep K H S v d
  | none, some _ => False
abbrev RepSt (K : PySem.W.Frag) (H : Hp) (S : Sto) (σ : L2.St) (ρ : DSt) : Prop := Paired (RepO K H S) σ ρ
def slot : DSt → Nat → Option D
  | [], _ => none
  | x :: _, 0 => x
  | _ :: r, n + 1 => slot r n
def dwipe (ρ : DSt) : List Nat → DSt
  | [] => ρ
  | v :: vs => (dwipe ρ vs).set v none
section
variable {K : PySem.W.Frag} {H H' : Hp} {S S' : Sto} {σ : L2.St} {ρ : DSt}
theorem RepO.mono (st : Step H S H' S') : ∀ {v : Option V} {d : Option D}, RepO K H S v d → RepO K H' S' v d
  | _, none, _ => by unfold RepO; trivial
  | some v, some d, h => Rep.mono st h
  | none, some _, h => h.elim
theorem RepSt.mono (st : Step H S H' S') (r : RepSt K H S σ ρ) : RepSt K H' S' σ ρ := paired_imp (fun _ _ h => RepO.mono st h) r
theorem RepSt.at : ∀ {σ : L2.St} {ρ : DSt} {i : Nat} {d : D}, RepSt K H S σ ρ → slot ρ i = some d → ∃ v, σ[i]? = some (some v) ∧ Rep K H S v d
  | _, _, _, _, .nil, e => by simp [slot] at e
  | _, _, 0, d, .cons (a := a) r _, e => by
    simp only [slot] at e
    subst e
    cases a with
    | none => exact r.elim
    | some v => exact ⟨v, rfl, r⟩
  | _, _, i + 1, d, .cons _ t, e => by
    obtain ⟨v, h1, h2⟩ := RepSt.at (i := i) t e
    exact ⟨v, by simpa using h1, h2⟩
theorem RepSt.set : ∀ {σ : L2.St} {ρ : DSt} (i : Nat) {v : Option V} {d : Option D}, RepSt K H S σ ρ → RepO K H S v d → RepSt K H S (σ.set i v) (ρ.set i d)
  | _, _, _, _, _, .nil, _ => .nil
  | _, _, 0, _, _, .cons _ t, r => .cons r t
  | _, _, i + 1, _, _, .cons q t, r => .cons q (RepSt.set i t r)
theorem RepSt.wipe (r : RepSt K H S σ ρ) : ∀ vs : List Nat, RepSt K H S (L2.wipe σ vs) (dwipe ρ vs)
  | [] => r
  | v :: vs => RepSt.set v (RepSt.wipe r vs) (by unfold RepO; trivial)
theorem RepSt.length (r : RepSt K H S σ ρ) : σ.length = ρ.length := Paired.length r
end
end DL

namespace DL
open PySem PySem.Spec PyProof.Rows L2

/-! ### values as they are read -/
/-- an owned list is read as a list -/
def peek (S : Sto) : D → D
  | .ref a => match S a with
    | some (.lst ds) => .lst ds
    | _ => .ref a
  | d => d
theorem peek_non {S : Sto} : peek S .non = .non := rfl
theorem peek_bl {S : Sto} {b : Bool} : peek S (.bl b) = .bl b := rfl
theorem peek_int {S : Sto} {b : Int} : peek S (.int b) = .int b := rfl
theorem peek_str {S : Sto} {b : Str} : peek S (.str b) = .str b := rfl
theorem peek_tup {S : Sto} {b : List D} : peek S (.tup b) = .tup b := rfl
theorem peek_lst {S : Sto} {b : List D} : peek S (.lst b) = .lst b := rfl
theorem peek_fz {S : Sto} {b : List D} : peek S (.fz b) = .fz b := rfl
theorem peek_ref {S : Sto} {a : Addr} {ds : List D} (h : S a = some (.lst ds)) : peek S (.ref a) = .lst ds := by
  simp only [peek, h]
def RepR (K : PySem.W.Frag) (H : Hp) (S : Sto) (v : V) (d : D) : Prop := Rep K H S v d ∨ ∃ a vs ds, v = .ref a ∧ d = .lst ds ∧ H a = some (.lst vs) ∧ RepL K H S vs ds
section
variable {K : PySem.W.Frag} {H H' : Hp} {S S' : Sto} {v : V} {d : D}
theorem peek_rep (w : Wd K H S) (r : Rep K H S v d) : RepR K H S v (peek (vis S) d) := by
  cases d with
  | ref a =>
    cases r
    cases e : vis S a with
    | none =>
      have z : peek (vis S) (.ref a) = .ref a := by simp only [peek, e]
      rw [z]; exact .inl (.ref a)
    | some m =>
      cases m with
      | lst ds =>
        have z : peek (vis S) (.ref a) = .lst ds := by simp only [peek, e]
        rw [z]
        obtain ⟨vs, h, q⟩ := w a _ (vis_of e).1
        exact .inr ⟨a, vs, ds, rfl, rfl, h, q⟩
      | _ =>
        have z : peek (vis S) (.ref a) = .ref a := by simp only [peek, e]
        rw [z]; exact .inl (.ref a)
  | _ => exact .inl r
theorem RepR.non (r : RepR K H S v .non) : v = .non := by
  rcases r with r | ⟨_, _, _, _, e, _⟩
  · cases r; rfl
  · cases e
theorem RepR.bl {b : Bool} (r : RepR K H S v (.bl b)) : v = .bl b := by
  rcases r with r | ⟨_, _, _, _, e, _⟩
  · cases r; rfl
  · cases e
theorem RepR.int {b : Int} (r : RepR K H S v (.int b)) : v = .int b := by
  rcases r with r | ⟨_, _, _, _, e, _⟩
  · cases r; rfl
  · cases e
theorem RepR.str {b : Str} (r : RepR K H S v (.str b)) : v = .str b := by
  rcases r with r | ⟨_, _, _, _, e, _⟩
  · cases r; rfl
  · cases e
theorem RepR.tup {ds : List D} (r : RepR K H S v (.tup ds)) : ∃ a vs, v = .ref a ∧ SqT K H a vs ∧ RepL K H S vs ds := by
  rcases r with r | ⟨_, _, _, _, e, _⟩
  · cases r with
    | tup h n q => exact ⟨_, _, rfl, SqT.of h, q⟩
  · cases e
theorem RepR.lst {ds : List D} (r : RepR K H S v (.lst ds)) : ∃ a vs, v = .ref a ∧ H a = some (.lst vs) ∧ RepL K H S vs ds := by
  rcases r with r | ⟨a, vs, ds', e1, e, h, q⟩
  · cases r with
    | lst h n q => exact ⟨_, _, rfl, h, q⟩
  · cases e; exact ⟨a, vs, e1, h, q⟩
theorem RepR.fz {ds : List D} (r : RepR K H S v (.fz ds)) : ∃ a vs, v = .ref a ∧ SqL K H a vs ∧ RepL K H S vs ds := by
  rcases r with r | ⟨_, _, _, _, e, _⟩
  · cases r with
    | fz h q => exact ⟨_, _, rfl, h _ _ Keep.refl, q⟩
  · cases e
end

/-! ### words that stand where evaluation stops -/
/-- two ways -/
structure Br (b : Bool) (A B : Prop) : Prop where
  t : b = true → A
  f : b = false → B
/-- a length within the line -/
structure SzOk (n : Nat) : Prop where
  le : n ≤ sizeLine
/-- a value as it is read -/
structure PeekP (S : Sto) (d : D) (f : D → Prop) : Prop where
  go : f (peek S d)
theorem PeekP.of {S : Sto} {d d' : D} {f : D → Prop} (h : peek S d = d') (q : f d') : PeekP S d f := ⟨by rw [h]; exact q⟩
theorem br_t {A B : Prop} (h : A) : Br true A B := ⟨fun _ => h, fun z => (nomatch z)⟩
theorem br_not {b : Bool} {A B : Prop} (h : Br b B A) : Br (!b) A B := by
  cases b with
  | true => exact ⟨fun z => (nomatch z), fun _ => h.t rfl⟩
  | false => exact ⟨fun _ => h.f rfl, fun z => (nomatch z)⟩
theorem br_f {A B : Prop} (h : B) : Br false A B := ⟨fun z => (nomatch z), fun _ => h⟩
theorem br_dec {p : Prop} [Decidable p] {A B : Prop} (h : p → A) (h' : ¬ p → B) : Br (decide p) A B := ⟨fun z => h (of_decide_eq_true z), fun z => h' (of_decide_eq_false z)⟩
theorem br_b {b : Bool} {A B : Prop} (h : b = true → A) (h' : b = false → B) : Br b A B := ⟨h, h'⟩
theorem br_to {b : Bool} {A B : Prop} (e : b = true) (h : A) : Br b A B := ⟨fun _ => h, fun z => by rw [e] at z; cases z⟩
theorem br_no {b : Bool} {A B : Prop} (e : b = false) (h : B) : Br b A B := ⟨fun z => (by rw [e] at z; cases z), fun _ => h⟩
theorem sz_lit {n : Nat} (h : Nat.ble n 16777216 = true) : SzOk n := ⟨by rw [sizeLine_eq]; exact Nat.le_of_ble_eq_true h⟩
theorem sz_le {n : Nat} (h : n ≤ 16777216) : SzOk n := ⟨by rw [sizeLine_eq]; exact h⟩
/-! ### judgements: a reading of data over a reading of values -/
abbrev TD := DSt → Sto → (D → Sto → Prop) → Prop
abbrev TDT := DSt → Sto → (Bool → Sto → Prop) → Prop
abbrev TDA := DSt → Sto → (List D → Sto → Prop) → Prop
abbrev DQ := D → Sto → Prop
def Ab (K : PySem.W.Frag) (te : TE) (t : TD) : Prop := ∀ (σ : L2.St) (H : Hp) (ρ : DSt) (S : Sto) (Q : DQ) (Qv : VK), Wd K H S → RepSt K H S σ ρ → t ρ (vis S) Q →
  (∀ v H' d S', Rep K H' S' v d → Wd K H' S' → Step H S H' S' → Q d (vis S') → Qv v H') → te σ H Qv
def AbT (K : PySem.W.Frag) (te : TT) (t : TDT) : Prop := ∀ (σ : L2.St) (H : Hp) (ρ : DSt) (S : Sto) (Q : Bool → Sto → Prop) (Qv : Bool → Hp → Prop), Wd K H S → RepSt K H S σ ρ → t ρ (vis S) Q →
  (∀ b H' S', Wd K H' S' → Step H S H' S' → Q b (vis S') → Qv b H') → te σ H Qv
def AbA (K : PySem.W.Frag) (te : TA) (t : TDA) : Prop := ∀ (σ : L2.St) (H : Hp) (ρ : DSt) (S : Sto) (Q : List D → Sto → Prop) (Qv : List V → Hp → Prop), Wd K H S → RepSt K H S σ ρ → t ρ (vis S) Q →
  (∀ vs H' ds S', RepL K H' S' vs ds → Wd K H' S' → Step H S H' S' → Q ds (vis S') → Qv vs H') → te σ H Qv
structure DE (X : Cx) (e : Expr) (te : TE) (t : TD) : Prop where
  pe : PE X e te
  ab : Ab X.K te t
structure DT (X : Cx) (e : Expr) (te : TT) (t : TDT) : Prop where
  pt : PT X e te
  ab : AbT X.K te t
structure DW (X : Cx) (e : Expr) (te : TT) (t : TDT) : Prop where
  pw : PW X e te
  ab : AbT X.K te t
structure DA (X : Cx) (es : List Expr) (te : TA) (t : TDA) : Prop where
  pa : PA X es te
  ab : AbA X.K te t

section
variable {X : Cx} {K : PySem.W.Frag}
/-! names, constants -/
def dVar (i : Nat) : TD := fun ρ S Q => match slot ρ i with
  | some d => Q d S
  | none => False
def dC (d : D) : TD := fun _ S Q => Q d S
theorem ab_var (i : Nat) : Ab K (tVar i) (dVar i) := fun σ H ρ S Q Qv w rs h k => by
  unfold dVar at h
  cases e : slot ρ i with
  | none => rw [e] at h; exact h.elim
  | some d =>
    rw [e] at h
    obtain ⟨v, h1, r⟩ := rs.at e
    exact ⟨v, h1, k v H d S r w Step.refl h⟩
theorem ab_c {v : V} {d : D} (r : ∀ H S, Rep K H S v d) : Ab K (tC v) (dC d) := fun σ H ρ S Q Qv w rs h k => k v H d S (r H S) w Step.refl h
theorem dv (i : Nat) {x : Str} {pos : Pos} (hN : X.N[i]? = some x := by rfl) (hv : Vis X.env.scope x := by first | exact Or.inl rfl | exact Or.inr (Or.inl rfl) | exact Or.inr (Or.inr rfl)) (hd : (x == ("__debug__" : Str)) = false := by decide)
    (hcd : (x == ("__classdict__" : Str)) = false := by decide) : DE X (.Name x pos) (tVar i) (dVar i) := ⟨pe_var hN hv hd hcd, ab_var i⟩
theorem de_int {i j pos} : DE X (.Constant (.int i) j pos) (tC (.int i)) (dC (.int i)) := ⟨pe_int, ab_c fun _ _ => .int i⟩
theorem de_str {i j pos} : DE X (.Constant (.str i) j pos) (tC (.str i)) (dC (.str i)) := ⟨pe_str, ab_c fun _ _ => .str i⟩
theorem de_bl {i j pos} : DE X (.Constant (.bool i) j pos) (tC (.bl i)) (dC (.bl i)) := ⟨pe_bl, ab_c fun _ _ => .bl i⟩
theorem de_non {j pos} : DE X (.Constant .none j pos) (tC .non) (dC .non) := ⟨pe_non, ab_c fun _ _ => .non⟩
theorem de_glob {x : Str} {v : V} {u : Value} {d : D} {pos : Pos} (hg : Gl X x) (hm : X.mg x = some u) (r : RelV v u) (rd : ∀ H S, Rep X.K H S v d) (hd : (x == ("__debug__" : Str)) = false := by decide) : DE X (.Name x pos) (tC v) (dC d) :=
  ⟨pe_glob hg hm r hd, ab_c rd⟩

/-! ### operators on two values -/
abbrev RD2 := D → D → Sto → DQ → Prop
/-- an operation on two values as they are read -/
structure RdP (rd : RD2) (S : Sto) (x y : D) (Q : DQ) : Prop where
  go : rd (peek S x) (peek S y) S Q
theorem RdP.of {rd : RD2} {S : Sto} {x y x' y' : D} {Q : DQ} (hx : peek S x = x') (hy : peek S y = y') (q : rd x' y' S Q) : RdP rd S x y Q := ⟨by rw [hx, hy]; exact q⟩
def AbR2 (K : PySem.W.Frag) (r : R2) (rd : RD2) : Prop := ∀ (H : Hp) (S : Sto) (x y : V) (dx dy : D) (Q : DQ) (Qv : VK), Wd K H S → RepR K H S x dx → RepR K H S y dy → rd dx dy (vis S) Q →
  (∀ v H' d S', Rep K H' S' v d → Wd K H' S' → Step H S H' S' → Q d (vis S') → Qv v H') → r x y H Qv
def dOp (rd : RD2) (ta tb : TD) : TD := fun ρ S Q => ta ρ S fun x S1 => tb ρ S1 fun y S2 => RdP rd S2 x y Q
theorem ab_op {r : R2} {rd : RD2} {ta tb : TE} {da db : TD} (ho : AbR2 K r rd) (ha : Ab K ta da) (hb : Ab K tb db) : Ab K (tOp r ta tb) (dOp rd da db) := fun σ H ρ S Q Qv w rs h k =>
  ha σ H ρ S _ _ w rs h fun x H1 dx S1 rx w1 s1 h1 => hb σ H1 ρ S1 _ _ w1 (rs.mono s1) h1 fun y H2 dy S2 ry w2 s2 h2 =>
    ho H2 S2 x y _ _ Q Qv w2 (peek_rep w2 (rx.mono s2)) (peek_rep w2 ry) h2.go fun v H' d S' r' w' s' q => k v H' d S' r' w' ((s1.trans s2).trans s') q
structure DOp (X : Cx) (f : Value → Value → Sem Value) (r : R2) (rd : RD2) : Prop where
  op : OpR X f r
  ab : AbR2 X.K r rd
theorem de_op {op : Operator} {r : R2} {rd : RD2} {a b : Expr} {ta tb : TE} {da db : TD} {pos : Pos} (ho : DOp X (binaryOp op) r rd) (ha : DE X a ta da) (hb : DE X b tb db) : DE X (.BinOp a op b pos) (tOp r ta tb) (dOp rd da db) :=
  ⟨pe_op ho.op ha.pe hb.pe, ab_op ho.ab ha.ab hb.ab⟩
theorem de_cmp {op : CmpOp} {r : R2} {rd : RD2} {a b : Expr} {ta tb : TE} {da db : TD} {pos : Pos} (ho : DOp X (compareOp op) r rd) (ha : DE X a ta da) (hb : DE X b tb db) (hm : behindInMarks op b = false := by rfl) : DE X (.Compare a [op] [b] pos) (tOp r ta tb) (dOp rd da db) :=
  ⟨pe_cmpR ho.op ha.pe hb.pe hm, ab_op ho.ab ha.ab hb.ab⟩
/-- a value that is a bool, as a test -/
def dTest (t : TD) : TDT := fun ρ S Q => t ρ S fun d S1 => match d with
  | .bl b => Q b S1
  | _ => False
theorem ab_test {te : TE} {t : TD} (h : Ab K te t) : AbT K (tTest te) (dTest t) := fun σ H ρ S Q Qv w rs q k =>
  h σ H ρ S _ _ w rs q fun v H' d S' r w' s' q' => by
    cases d with
    | bl b => cases r; exact ⟨b, rfl, k b H' S' w' s' q'⟩
    | _ => exact q'.elim
theorem dt_cmp {op : CmpOp} {r : R2} {rd : RD2} {a b : Expr} {ta tb : TE} {da db : TD} {pos : Pos} (ho : DOp X (compareOp op) r rd) (ha : DE X a ta da) (hb : DE X b tb db) (hm : behindInMarks op b = false := by rfl) : DT X (.Compare a [op] [b] pos) (tTest (tOp r ta tb)) (dTest (dOp rd da db)) :=
  ⟨pt_cmpR ho.op ha.pe hb.pe hm, ab_test (ab_op ho.ab ha.ab hb.ab)⟩

/-! ### truth -/
def truD (d : D) (S : Sto) (Q : Bool → Sto → Prop) : Prop := match d with
  | .bl b => Q b S
  | .int i => Q (i != 0) S
  | .str x => SzOk x.length ∧ Q ((x.length : Int) != 0) S
  | .lst xs => Q (!xs.isEmpty) S
  | .tup xs => Q (!xs.isEmpty) S
  | .non => Q false S
  | _ => False
def dTru (t : TD) : TDT := fun ρ S Q => t ρ S fun d S1 => PeekP S1 d fun d' => truD d' S1 Q
theorem isEmpty_rep {H : Hp} {S : Sto} {vs : List V} {ds : List D} (r : RepL K H S vs ds) : vs.isEmpty = ds.isEmpty := by
  cases r <;> rfl
theorem ab_tru {te : TE} {t : TD} (h : Ab K te t) : AbT K (fun σ H Q => te σ H fun x H' => ∃ k, TruV K x H' k ∧ Q k H') (dTru t) := fun σ H ρ S Q Qv w rs q k => h σ H ρ S _ _ w rs q fun v H' d S' r w' s' q' => by
  have rr := peek_rep w' r
  have q' := q'.go
  generalize peek (vis S') d = d' at rr q'
  cases d' with
  | bl b => cases rr.bl; exact ⟨b, rfl, k _ _ _ w' s' q'⟩
  | int b => cases rr.int; exact ⟨_, rfl, k _ _ _ w' s' q'⟩
  | str b => cases rr.str; exact ⟨_, ⟨q'.1.le, rfl⟩, k _ _ _ w' s' q'.2⟩
  | non => cases rr.non; exact ⟨_, rfl, k _ _ _ w' s' q'⟩
  | lst xs =>
    obtain ⟨a, vs, rfl, h1, h2⟩ := rr.lst
    exact ⟨_, .inl ⟨vs, SqL.of h1, by rw [isEmpty_rep h2]⟩, k _ _ _ w' s' q'⟩
  | tup xs =>
    obtain ⟨a, vs, rfl, h1, h2⟩ := rr.tup
    exact ⟨_, .inr (.inl ⟨vs, h1, by rw [isEmpty_rep h2]⟩), k _ _ _ w' s' q'⟩
  | fz xs => exact q'.elim
  | ref a => exact q'.elim
theorem dt_tru {e : Expr} {te : TE} {t : TD} (h : DE X e te t) (hs : ∀ whole, isTrue e X.env whole = (do let v ← whole; standAt e.pos; holding [v] (truthy v)) := by intro _; rfl) : DT X e (fun σ H Q => te σ H fun x H' => ∃ k, TruV X.K x H' k ∧ Q k H') (dTru t) :=
  ⟨pt_truth h.pe hs, ab_tru h.ab⟩
def dAnd (t u : TDT) : TDT := fun ρ S Q => t ρ S fun b S1 => Br b (u ρ S1 Q) (Q false S1)
def dOr (t u : TDT) : TDT := fun ρ S Q => t ρ S fun b S1 => Br b (Q true S1) (u ρ S1 Q)
def dNot (t : TDT) : TDT := fun ρ S Q => t ρ S fun b S1 => Q (!b) S1
section
variable {e : Expr} {es : List Expr} {tt tu : TT} {t u : TDT} {pos : Pos}
theorem ab_and (h : AbT K tt t) (h' : AbT K tu u) : AbT K (tAnd tt tu) (dAnd t u) := fun σ H ρ S Q Qv w rs q k => h σ H ρ S _ _ w rs q fun b H' S' w' s' q' => by
  cases b with
  | true => rw [if_pos rfl]; exact h' σ H' ρ S' _ _ w' (rs.mono s') (q'.t rfl) fun b2 H2 S2 w2 s2 q2 => k _ _ _ w2 (s'.trans s2) q2
  | false => rw [if_neg (by decide)]; exact k _ _ _ w' s' (q'.f rfl)
theorem ab_or (h : AbT K tt t) (h' : AbT K tu u) : AbT K (tOr tt tu) (dOr t u) := fun σ H ρ S Q Qv w rs q k => h σ H ρ S _ _ w rs q fun b H' S' w' s' q' => by
  cases b with
  | true => rw [if_pos rfl]; exact k _ _ _ w' s' (q'.t rfl)
  | false => rw [if_neg (by decide)]; exact h' σ H' ρ S' _ _ w' (rs.mono s') (q'.f rfl) fun b2 H2 S2 w2 s2 q2 => k _ _ _ w2 (s'.trans s2) q2
theorem ab_not (h : AbT K tt t) : AbT K (tNot tt) (dNot t) := fun σ H ρ S Q Qv w rs q k => h σ H ρ S _ _ w rs q fun b H' S' w' s' q' => k _ _ _ w' s' q'
theorem DW.dt (h : DW X e tt t) : DT X e tt t := ⟨h.pw.pt, h.ab⟩
end
end
end DL

namespace DL
open PySem PySem.Spec PyProof.Rows L2
/-! ### plain data -/
mutual
def D.toPy : D → PyData
  | .non => .none
  | .bl b => .bool b
  | .int i => .int i
  | .str x => .str x
  | .tup xs => .tuple (D.toPyL xs)
  | .lst xs => .list (D.toPyL xs)
  | .fz xs => .list (D.toPyL xs)
  | .ref _ => .none
def D.toPyL : List D → List PyData
  | [] => []
  | x :: xs => D.toPy x :: D.toPyL xs
end
mutual
def D.ok : Nat → D → Bool
  | _, .non => true
  | _, .bl _ => true
  | _, .int _ => true
  | _, .str x => PyData.strOk x
  | 0, .tup _ => false
  | n + 1, .tup xs => D.okL n xs
  | 0, .lst _ => false
  | n + 1, .lst xs => D.okL n xs
  | 0, .fz _ => false
  | n + 1, .fz xs => D.okL n xs
  | _, .ref _ => false
def D.okL : Nat → List D → Bool
  | _, [] => true
  | n, x :: xs => D.ok n x && D.okL n xs
end
theorem okL_iff {n : Nat} : ∀ {xs : List D}, D.okL n xs = true ↔ ∀ d ∈ xs, D.ok n d = true
  | [] => by simp [D.okL]
  | x :: xs => by simp [D.okL, okL_iff (xs := xs)]
theorem ok_tup {n : Nat} {xs : List D} : D.ok (n + 1) (.tup xs) = true ↔ ∀ d ∈ xs, D.ok n d = true := by rw [D.ok]; exact okL_iff
theorem ok_lst {n : Nat} {xs : List D} : D.ok (n + 1) (.lst xs) = true ↔ ∀ d ∈ xs, D.ok n d = true := by rw [D.ok]; exact okL_iff
mutual
theorem ok_can : ∀ {n : Nat} {d : D}, D.ok n d = true → d.toPy.canLay0 = true ∧ d.toPy.depth ≤ n
  | _, .non, _ => ⟨rfl, Nat.zero_le _⟩
  | _, .bl _, _ => ⟨rfl, Nat.zero_le _⟩
  | _, .int _, _ => ⟨rfl, Nat.zero_le _⟩
  | _, .str x, h => ⟨by simpa [D.ok, D.toPy, PyData.canLay0] using h, Nat.zero_le _⟩
  | 0, .tup _, h => by simp [D.ok] at h
  | 0, .lst _, h => by simp [D.ok] at h
  | 0, .fz _, h => by simp [D.ok] at h
  | n + 1, .tup xs, h => by
    have q := ok_canL (n := n) (xs := xs) (by simpa [D.ok] using h)
    exact ⟨by simpa [D.toPy, PyData.canLay0] using q.1, by simpa [D.toPy, PyData.depth] using q.2⟩
  | n + 1, .lst xs, h => by
    have q := ok_canL (n := n) (xs := xs) (by simpa [D.ok] using h)
    exact ⟨by simpa [D.toPy, PyData.canLay0] using q.1, by simpa [D.toPy, PyData.depth] using q.2⟩
  | n + 1, .fz xs, h => by
    have q := ok_canL (n := n) (xs := xs) (by simpa [D.ok] using h)
    exact ⟨by simpa [D.toPy, PyData.canLay0] using q.1, by simpa [D.toPy, PyData.depth] using q.2⟩
  | _, .ref _, h => by simp [D.ok] at h
theorem ok_canL : ∀ {n : Nat} {xs : List D}, D.okL n xs = true → PyData.canLayAll0 (D.toPyL xs) = true ∧ PyData.depthAll (D.toPyL xs) ≤ n
  | _, [], _ => ⟨rfl, Nat.zero_le _⟩
  | n, x :: xs, h => by
    have h' : D.ok n x = true ∧ D.okL n xs = true := by simpa [D.okL] using h
    have q1 := ok_can h'.1
    have q2 := ok_canL h'.2
    refine ⟨by simp [D.toPyL, PyData.canLayAll0, q1.1, q2.1], ?_⟩
    show max _ _ ≤ n
    exact Nat.max_le.mpr ⟨q1.2, q2.2⟩
end
theorem ok_shaped {d : D} (h : D.ok 64 d = true) : SeqAt.shaped d.toPy = true := by
  have q := ok_can h
  unfold SeqAt.shaped
  rw [q.1, decide_eq_true q.2]; rfl
mutual
theorem ok_mono : ∀ {m n : Nat} {d : D}, m ≤ n → D.ok m d = true → D.ok n d = true
  | _, _, .non, _, _ => by simp [D.ok]
  | _, _, .bl _, _, _ => by simp [D.ok]
  | _, _, .int _, _, _ => by simp [D.ok]
  | m, n, .str x, _, h => by simpa [D.ok] using h
  | 0, _, .tup _, _, h => by simp [D.ok] at h
  | 0, _, .lst _, _, h => by simp [D.ok] at h
  | 0, _, .fz _, _, h => by simp [D.ok] at h
  | m + 1, 0, .tup _, e, h => by omega
  | m + 1, 0, .lst _, e, h => by omega
  | m + 1, 0, .fz _, e, h => by omega
  | m + 1, n + 1, .tup xs, e, h => by
    have := okL_mono (m := m) (n := n) (xs := xs) (by omega) (by simpa [D.ok] using h)
    simpa [D.ok] using this
  | m + 1, n + 1, .lst xs, e, h => by
    have := okL_mono (m := m) (n := n) (xs := xs) (by omega) (by simpa [D.ok] using h)
    simpa [D.ok] using this
  | m + 1, n + 1, .fz xs, e, h => by
    have := okL_mono (m := m) (n := n) (xs := xs) (by omega) (by simpa [D.ok] using h)
    simpa [D.ok] using this
  | _, _, .ref _, _, h => by simp [D.ok] at h
theorem okL_mono : ∀ {m n : Nat} {xs : List D}, m ≤ n → D.okL m xs = true → D.okL n xs = true
  | _, _, [], _, _ => by simp [D.okL]
  | m, n, x :: xs, e, h => by
    have h' : D.ok m x = true ∧ D.okL m xs = true := by simpa [D.okL] using h
    simp [D.okL, ok_mono e h'.1, okL_mono e h'.2]
end
section
variable {K : PySem.W.Frag} {H : Hp} {S : Sto}
mutual
theorem Rep.dp : ∀ {v : V} {d : D} {n : Nat}, Rep K H S v d → D.ok n d = true → Dp K H v d.toPy
  | _, _, _, .non, _ => .non
  | _, _, _, .bl b, _ => .bl b
  | _, _, _, .int i, _ => .int i
  | _, _, _, .str x, _ => .str x
  | _, _, _, .ref a, h => by simp [D.ok] at h
  | _, .tup ds, 0, .tup h n r, e => by simp [D.ok] at e
  | _, .tup ds, m + 1, .tup h n r, e => by
    rw [D.toPy]; exact .tup (SqT.of h) (RepL.dp r (by simpa [D.ok] using e))
  | _, .lst ds, 0, .lst h n r, e => by simp [D.ok] at e
  | _, .lst ds, m + 1, .lst h n r, e => by
    rw [D.toPy]; exact .lst (SqL.of h) (RepL.dp r (by simpa [D.ok] using e))
  | _, .fz ds, 0, .fz h r, e => by simp [D.ok] at e
  | _, .fz ds, m + 1, .fz h r, e => by
    rw [D.toPy]; exact .lst (h _ _ Keep.refl) (RepL.dp r (by simpa [D.ok] using e))
theorem RepL.dp : ∀ {vs : List V} {ds : List D} {n : Nat}, RepL K H S vs ds → D.okL n ds = true → DpAll K H vs (D.toPyL ds)
  | _, _, _, .nil, _ => by rw [D.toPyL]; exact .nil
  | _, _, n, .cons (d := d) (ds := ds) r t, h => by
    have h' : D.ok n d = true ∧ D.okL n ds = true := by simpa [D.okL] using h
    rw [D.toPyL]; exact .cons (Rep.dp r h'.1) (RepL.dp t h'.2)
end
theorem RepR.dp {v : V} {d : D} {n : Nat} (r : RepR K H S v d) (h : D.ok n d = true) : Dp K H v d.toPy := by
  rcases r with r | ⟨a, vs, ds, e1, e, hh, q⟩
  · exact r.dp h
  · cases e; cases e1
    cases n with
    | zero => simp [D.ok] at h
    | succ n => rw [D.toPy]; exact .lst (SqL.of hh) (q.dp (by simpa [D.ok] using h))
end
/-- == of data -/
def D.eqv (d e : D) : Bool := PyData.eqv d.toPy e.toPy
def D.eqvL (d e : List D) : Bool := PyData.eqvAll (D.toPyL d) (D.toPyL e)

/-! ### operators -/
section
variable {X : Cx}
theorem DOp.or {f : Value → Value → Sem Value} {r r' : R2} {rd rd' rr : RD2} (h : DOp X f r rd) (h' : DOp X f r' rd') (hr : ∀ x y S Q, rr x y S Q → rd x y S Q ∨ rd' x y S Q) : DOp X f (fun x y H Q => r x y H Q ∨ r' x y H Q) rr :=
  ⟨h.op.or h'.op, fun H S x y dx dy Q Qv w rx ry q k => by
    rcases hr _ _ _ _ q with q | q
    · exact .inl (h.ab H S x y dx dy Q Qv w rx ry q k)
    · exact .inr (h'.ab H S x y dx dy Q Qv w rx ry q k)⟩
def iOp (C : Int → Int → Prop) (g : Int → Int → D) : RD2 := fun x y S Q => match x, y with
  | .int i, .int j => C i j ∧ Q (g i j) S
  | _, _ => False
theorem ab_int {K : PySem.W.Frag} {C : Int → Int → Prop} {g : Int → Int → V} {gd : Int → Int → D} (hg : ∀ i j H S, Rep K H S (g i j) (gd i j)) : AbR2 K (rI C g) (iOp C gd) := fun H S x y dx dy Q Qv w rx ry q k => by
  cases dx <;> cases dy <;> first | exact False.elim q | skip
  rename_i i j
  cases rx.int; cases ry.int
  exact ⟨i, j, rfl, rfl, q.1, k _ _ _ _ (hg _ _ _ _) w Step.refl q.2⟩
theorem ab_int0 {K : PySem.W.Frag} {g : Int → Int → V} {gd : Int → Int → D} (hg : ∀ i j H S, Rep K H S (g i j) (gd i j)) : AbR2 K (rI0 g) (iOp (fun _ _ => True) gd) := fun H S x y dx dy Q Qv w rx ry q k => by
  cases dx <;> cases dy <;> first | exact False.elim q | skip
  rename_i i j
  cases rx.int; cases ry.int
  exact ⟨i, j, rfl, rfl, k _ _ _ _ (hg _ _ _ _) w Step.refl q.2⟩
/-- + -/
def addD : RD2 := fun x y S Q => match x, y with
  | .int i, .int j => Q (.int (i + j)) S
  | .str a, .str b => SzOk (a.length + b.length) ∧ Q (.str (a ++ b)) S
  | .tup a, .tup b => SzOk (a.length + b.length) ∧ Q (.tup (a ++ b)) S
  | .lst a, .lst b => SzOk (a.length + b.length) ∧ Q (.lst (a ++ b)) S
  | _, _ => False
theorem RepR.keep {K : PySem.W.Frag} {H : Hp} {S : Sto} {a : Addr} {ds : List D} (r : RepR K H S (.ref a) (.tup ds)) : Rep K H S (.ref a) (.tup ds) := by
  rcases r with r | ⟨_, _, _, _, e, _⟩
  · exact r
  · cases e
theorem do_add : DOp X (binaryOp .Add) (fun x y H Q => rI0 (fun i j => .int (i + j)) x y H Q ∨ ((∃ i j, x = V.str i ∧ y = V.str j ∧ i.length + j.length ≤ sizeLine ∧ Q (.str (i ++ j)) H) ∨ (rCatA X.K x y H Q ∨ rCat x y H Q))) addD :=
  ⟨op_add.or (op_add_str.or (op_catA.or op_cat)), fun H S x y dx dy Q Qv w rx ry q k => by
    cases dx <;> cases dy <;> first | exact False.elim q | skip
    · rename_i i j
      cases rx.int; cases ry.int
      exact .inl ⟨i, j, rfl, rfl, k _ _ _ _ (.int _) w Step.refl q⟩
    · rename_i i j
      cases rx.str; cases ry.str
      exact .inr (.inl ⟨i, j, rfl, rfl, q.1.le, k _ _ _ _ (.str _) w Step.refl q.2⟩)
    · rename_i ds es
      obtain ⟨a, vs, rfl, h1, h2⟩ := rx.tup
      obtain ⟨b, us, rfl, h3, h4⟩ := ry.tup
      refine .inr (.inr (.inl ⟨a, b, vs, us, rfl, rfl, h1, h3, ?_, fun e => ?_, fun _ e => ?_, fun _ _ p hp => ?_⟩))
      · rw [h2.length, h4.length]; exact q.1.le
      · subst e
        cases h2
        exact k _ _ _ _ ry.keep w Step.refl q.2
      · subst e
        cases h4
        have q2 := q.2
        rw [List.append_nil] at q2
        exact k _ _ _ _ rx.keep w Step.refl q2
      · exact k _ _ _ _ (.tup upd_same (w.free hp) ((h2.append h4).mono (Step.new w hp))) (w.new hp) (Step.new w hp) q.2
    · rename_i ds es
      obtain ⟨a, vs, rfl, h1, h2⟩ := rx.lst
      obtain ⟨b, us, rfl, h3, h4⟩ := ry.lst
      refine .inr (.inr (.inr ⟨a, b, vs, us, rfl, rfl, h1, h3, ?_, fun p hp => ?_⟩))
      · rw [h2.length, h4.length]; exact q.1.le
      · exact k _ _ _ _ (.lst upd_same (w.free hp) ((h2.append h4).mono (Step.new w hp))) (w.new hp) (Step.new w hp) q.2⟩
abbrev subD : RD2 := iOp (fun _ _ => True) fun i j => .int (i - j)
theorem do_sub : DOp X (binaryOp .Sub) (rI0 fun i j => .int (i - j)) subD := ⟨op_sub, ab_int0 fun _ _ _ _ => .int _⟩
abbrev modD : RD2 := iOp (fun _ j => 0 < j) fun i j => .int (i % j)
theorem do_mod : DOp X (binaryOp .Mod) (rI (fun _ j => 0 < j) fun i j => .int (i % j)) modD := ⟨op_mod, ab_int fun _ _ _ _ => .int _⟩
abbrev fdivD : RD2 := iOp CDivW fun i j => .int (i / j)
theorem do_fdiv : DOp X (binaryOp .FloorDiv) (rI CDivW fun i j => .int (i / j)) fdivD := ⟨op_fdivW, ab_int fun _ _ _ _ => .int _⟩
abbrev powD : RD2 := iOp CPow fun i j => .int (i ^ j.toNat)
theorem do_pow : DOp X (binaryOp .Pow) (rI CPow fun i j => .int (i ^ j.toNat)) powD := ⟨op_pow, ab_int fun _ _ _ _ => .int _⟩
abbrev ltD : RD2 := iOp (fun _ _ => True) fun i j => .bl (decide (i < j))
abbrev leD : RD2 := iOp (fun _ _ => True) fun i j => .bl (decide (i ≤ j))
abbrev gtD : RD2 := iOp (fun _ _ => True) fun i j => .bl (decide (j < i))
abbrev geD : RD2 := iOp (fun _ _ => True) fun i j => .bl (decide (j ≤ i))
theorem do_lt : DOp X (compareOp .Lt) (rI0 fun i j => .bl (decide (i < j))) ltD := ⟨op_lt, ab_int0 fun _ _ _ _ => .bl _⟩
theorem do_le : DOp X (compareOp .LtE) (rI0 fun i j => .bl (decide (i ≤ j))) leD := ⟨op_le, ab_int0 fun _ _ _ _ => .bl _⟩
theorem do_gt : DOp X (compareOp .Gt) (rI0 fun i j => .bl (decide (j < i))) gtD := ⟨op_gt, ab_int0 fun _ _ _ _ => .bl _⟩
theorem do_ge : DOp X (compareOp .GtE) (rI0 fun i j => .bl (decide (j ≤ i))) geD := ⟨op_ge, ab_int0 fun _ _ _ _ => .bl _⟩
/-- * -/
def mulD : RD2 := fun x y S Q => match x, y with
  | .int i, .int j => (CMul i j ∨ CMulW i j) ∧ Q (.int (i * j)) S
  | .lst a, .int k => (-(2 ^ 63) ≤ k ∧ k < 2 ^ 63 ∧ a.length * k.toNat ≤ sizeLine) ∧ Q (.lst (List.replicate k.toNat a).flatten) S
  | _, _ => False
theorem RepL.rep {K : PySem.W.Frag} {H : Hp} {S : Sto} {vs : List V} {ds : List D} (r : RepL K H S vs ds) : ∀ n : Nat, RepL K H S (List.replicate n vs).flatten (List.replicate n ds).flatten
  | 0 => .nil
  | n + 1 => by
    rw [List.replicate_succ, List.replicate_succ, List.flatten_cons, List.flatten_cons]
    exact r.append (RepL.rep r n)
theorem do_mul : DOp X (binaryOp .Mult) (fun x y H Q => rI CMul (fun i j => .int (i * j)) x y H Q ∨ (rI CMulW (fun i j => .int (i * j)) x y H Q ∨ rRep x y H Q)) mulD :=
  ⟨op_mul.or (op_mulW.or op_rep), fun H S x y dx dy Q Qv w rx ry q k => by
    cases dx <;> cases dy <;> first | exact False.elim q | skip
    · rename_i i j
      cases rx.int; cases ry.int
      rcases q.1 with c | c
      · exact .inl ⟨i, j, rfl, rfl, c, k _ _ _ _ (.int _) w Step.refl q.2⟩
      · exact .inr (.inl ⟨i, j, rfl, rfl, c, k _ _ _ _ (.int _) w Step.refl q.2⟩)
    · rename_i ds j
      obtain ⟨a, vs, rfl, h1, h2⟩ := rx.lst
      cases ry.int
      refine .inr (.inr ⟨a, j, vs, rfl, rfl, h1, q.1.1, q.1.2.1, ?_, fun p hp => ?_⟩)
      · rw [h2.length]; exact q.1.2.2
      · exact k _ _ _ _ (.lst upd_same (w.free hp) ((RepL.rep h2 _).mono (Step.new w hp))) (w.new hp) (Step.new w hp) q.2⟩
/-- == -/
def eqD : RD2 := fun x y S Q => match x, y with
  | .int i, .int j => Q (.bl (decide (i = j))) S
  | .str i, .str j => Q (.bl (decide (i = j))) S
  | .bl i, .bl j => Q (.bl (decide (i = j))) S
  | x, y => (D.ok 64 x = true ∧ D.ok 64 y = true) ∧ Q (.bl (D.eqv x y)) S
def neD : RD2 := fun x y S Q => match x, y with
  | .int i, .int j => Q (.bl (!decide (i = j))) S
  | .str i, .str j => Q (.bl (!decide (i = j))) S
  | .bl i, .bl j => Q (.bl (!decide (i = j))) S
  | x, y => (D.ok 64 x = true ∧ D.ok 64 y = true) ∧ Q (.bl (!D.eqv x y)) S
theorem vint_eq {i j : Int} : (decide (V.int i = V.int j)) = decide (i = j) := by by_cases h : i = j <;> simp [h]
theorem vstr_eq {i j : Str} : (decide (V.str i = V.str j)) = decide (i = j) := by by_cases h : i = j <;> simp [h]
theorem vbl_eq {i j : Bool} : (decide (V.bl i = V.bl j)) = decide (i = j) := by by_cases h : i = j <;> simp [h]
theorem do_eq (hu : X.A.units + 64 < cLine) : DOp X (compareOp .Eq) (fun x y H Q => rEq x y H Q ∨ rEqD X.K x y H Q) eqD :=
  ⟨op_eq.or (op_eqD hu), fun H S x y dx dy Q Qv w rx ry q k => by
    have gen : (D.ok 64 dx = true ∧ D.ok 64 dy = true) ∧ Q (.bl (D.eqv dx dy)) (vis S) → rEq x y H Qv ∨ rEqD X.K x y H Qv := fun z =>
      .inr ⟨_, _, rx.dp z.1.1, ry.dp z.1.2, ok_shaped z.1.1, ok_shaped z.1.2, k _ _ _ _ (.bl _) w Step.refl z.2⟩
    cases dx <;> cases dy <;> first | exact gen q | skip
    · cases rx.bl; cases ry.bl
      exact .inl ⟨rfl, by rw [vbl_eq]; exact k _ _ _ _ (.bl _) w Step.refl q⟩
    · cases rx.int; cases ry.int
      exact .inl ⟨rfl, by rw [vint_eq]; exact k _ _ _ _ (.bl _) w Step.refl q⟩
    · cases rx.str; cases ry.str
      exact .inl ⟨rfl, by rw [vstr_eq]; exact k _ _ _ _ (.bl _) w Step.refl q⟩⟩
theorem do_ne (hu : X.A.units + 64 < cLine) : DOp X (compareOp .NotEq) (fun x y H Q => rNe x y H Q ∨ rNeD X.K x y H Q) neD :=
  ⟨op_ne.or (op_neD hu), fun H S x y dx dy Q Qv w rx ry q k => by
    have gen : (D.ok 64 dx = true ∧ D.ok 64 dy = true) ∧ Q (.bl (!D.eqv dx dy)) (vis S) → rNe x y H Qv ∨ rNeD X.K x y H Qv := fun z =>
      .inr ⟨_, _, rx.dp z.1.1, ry.dp z.1.2, ok_shaped z.1.1, ok_shaped z.1.2, k _ _ _ _ (.bl _) w Step.refl z.2⟩
    cases dx <;> cases dy <;> first | exact gen q | skip
    · cases rx.bl; cases ry.bl
      exact .inl ⟨rfl, by rw [vbl_eq]; exact k _ _ _ _ (.bl _) w Step.refl q⟩
    · cases rx.int; cases ry.int
      exact .inl ⟨rfl, by rw [vint_eq]; exact k _ _ _ _ (.bl _) w Step.refl q⟩
    · cases rx.str; cases ry.str
      exact .inl ⟨rfl, by rw [vstr_eq]; exact k _ _ _ _ (.bl _) w Step.refl q⟩⟩
/-- is None, is not None, is True -/
def isD : RD2 := fun x y S Q => match x, y with
  | .bl i, .bl j => Q (.bl (decide (i = j))) S
  | x, .non => Q (.bl (match x with | .non => true | _ => false)) S
  | _, _ => False
def isnotD : RD2 := fun x y S Q => match x, y with
  | .bl i, .bl j => Q (.bl (!decide (i = j))) S
  | x, .non => Q (.bl (match x with | .non => false | _ => true)) S
  | _, _ => False
end
end DL

namespace DL
open PySem PySem.Spec PyProof.Rows L2
section
variable {X : Cx} {K : PySem.W.Frag}
/-! ### is, in -/
theorem do_is : DOp X (compareOp .Is) (fun x y H Q => (y = .non ∧ Q (.bl (decide (x = .non))) H) ∨ rIsB x y H Q) isD :=
  ⟨op_isN.or op_isBl, fun H S x y dx dy Q Qv w rx ry q k => by
    cases dy with
    | non =>
      cases ry.non
      refine .inl ⟨rfl, ?_⟩
      cases dx with
      | non => cases rx.non; exact k _ _ _ _ (.bl _) w Step.refl q
      | bl b => cases rx.bl; exact k _ _ _ _ (.bl _) w Step.refl q
      | int b => cases rx.int; exact k _ _ _ _ (.bl _) w Step.refl q
      | str b => cases rx.str; exact k _ _ _ _ (.bl _) w Step.refl q
      | tup b => obtain ⟨_, _, rfl, _⟩ := rx.tup; exact k _ _ _ _ (.bl _) w Step.refl q
      | lst b => obtain ⟨_, _, rfl, _⟩ := rx.lst; exact k _ _ _ _ (.bl _) w Step.refl q
      | fz b => obtain ⟨_, _, rfl, _⟩ := rx.fz; exact k _ _ _ _ (.bl _) w Step.refl q
      | ref a =>
        rcases rx with rx | ⟨_, _, _, _, e, _⟩
        · cases rx; exact k _ _ _ _ (.bl _) w Step.refl q
        · cases e
    | bl b =>
      cases dx with
      | bl c => cases rx.bl; cases ry.bl; exact .inr ⟨c, b, rfl, rfl, k _ _ _ _ (.bl _) w Step.refl q⟩
      | _ => exact False.elim q
    | _ => cases dx <;> exact False.elim q⟩
theorem do_isnot : DOp X (compareOp .IsNot) (fun x y H Q => (y = .non ∧ Q (.bl (!decide (x = .non))) H) ∨ rNotB x y H Q) isnotD :=
  ⟨op_notN.or op_notBl, fun H S x y dx dy Q Qv w rx ry q k => by
    cases dy with
    | non =>
      cases ry.non
      refine .inl ⟨rfl, ?_⟩
      cases dx with
      | non => cases rx.non; exact k _ _ _ _ (.bl _) w Step.refl q
      | bl b => cases rx.bl; exact k _ _ _ _ (.bl _) w Step.refl q
      | int b => cases rx.int; exact k _ _ _ _ (.bl _) w Step.refl q
      | str b => cases rx.str; exact k _ _ _ _ (.bl _) w Step.refl q
      | tup b => obtain ⟨_, _, rfl, _⟩ := rx.tup; exact k _ _ _ _ (.bl _) w Step.refl q
      | lst b => obtain ⟨_, _, rfl, _⟩ := rx.lst; exact k _ _ _ _ (.bl _) w Step.refl q
      | fz b => obtain ⟨_, _, rfl, _⟩ := rx.fz; exact k _ _ _ _ (.bl _) w Step.refl q
      | ref a =>
        rcases rx with rx | ⟨_, _, _, _, e, _⟩
        · cases rx; exact k _ _ _ _ (.bl _) w Step.refl q
        · cases e
    | bl b =>
      cases dx with
      | bl c => cases rx.bl; cases ry.bl; exact .inr ⟨c, b, rfl, rfl, k _ _ _ _ (.bl _) w Step.refl q⟩
      | _ => exact False.elim q
    | _ => cases dx <;> exact False.elim q⟩
/-- in a list or a tuple of data; one sign in a text -/
def flatD : D → Bool
  | .non => true
  | .bl _ => true
  | .int _ => true
  | .str _ => true
  | _ => false
def eqF : D → D → Bool
  | .non, .non => true
  | .bl a, .bl b => a == b
  | .bl a, .int b => (if a then 1 else 0) == b
  | .int a, .bl b => a == (if b then 1 else 0)
  | .int a, .int b => a == b
  | .str a, .str b => a == b
  | _, _ => false
def inF (x : D) (xs : List D) : Bool := xs.any fun y => eqF y x
theorem flat_rep {H : Hp} {S : Sto} {v : V} {d : D} (r : Rep K H S v d) (h : flatD d = true) : flatV v = true := by
  cases r <;> first | rfl | (simp [flatD] at h)
theorem flat_repL {H : Hp} {S : Sto} : ∀ {vs : List V} {ds : List D}, RepL K H S vs ds → ds.all flatD = true → vs.all flatV = true
  | _, _, .nil, _ => rfl
  | _, _, .cons (d := d) (ds := ds) r t, h => by
    have h' : flatD d = true ∧ ds.all flatD = true := by simpa using h
    rw [List.all_cons, flat_rep r h'.1, flat_repL t h'.2]; rfl
theorem eqF_rep {H : Hp} {S : Sto} {v u : V} {d e : D} (r : Rep K H S v d) (r' : Rep K H S u e) (h : flatD d = true) (h' : flatD e = true) : eqV v u = eqF d e := by
  cases r <;> first | (cases r' <;> first | rfl | (simp [flatD] at h')) | (simp [flatD] at h)
theorem inF_rep {H : Hp} {S : Sto} {v : V} {d : D} (r : Rep K H S v d) (h : flatD d = true) : ∀ {vs : List V} {ds : List D}, RepL K H S vs ds → ds.all flatD = true → inV v vs = inF d ds
  | _, _, .nil, _ => rfl
  | _, _, .cons (d := e) (ds := ds) q t, h2 => by
    have h' : flatD e = true ∧ ds.all flatD = true := by simpa using h2
    have ih := inF_rep r h t h'.2
    unfold inV inF at *
    rw [List.any_cons, List.any_cons, ih, eqF_rep q r h'.1 h]
theorem RepR.flat {H : Hp} {S : Sto} {v : V} {d : D} (r : RepR K H S v d) (h : flatD d = true) : Rep K H S v d := by
  rcases r with r | ⟨_, _, _, _, e, _⟩
  · exact r
  · subst e; simp [flatD] at h
def inD (neg : Bool) : RD2 := fun x y S Q => match x, y with
  | x, .tup ds => (flatD x = true ∧ ds.all flatD = true) ∧ Q (.bl (if neg then !inF x ds else inF x ds)) S
  | .tup xs, .lst ds => (D.ok 64 (.tup xs) = true ∧ D.ok 64 (.lst ds) = true) ∧ Q (.bl (if neg then !(ds.any fun z => D.eqv z (.tup xs)) else ds.any fun z => D.eqv z (.tup xs))) S
  | x, .lst ds => (flatD x = true ∧ ds.all flatD = true) ∧ Q (.bl (if neg then !inF x ds else inF x ds)) S
  | .str c, .str z => ∃ n, c = ⟨#[n]⟩ ∧ Q (.bl (if neg then !decide (n ∈ z.cps.toList) else decide (n ∈ z.cps.toList))) S
  | _, _ => False
theorem any_toPy {f : PyData → Bool} : ∀ ds : List D, (D.toPyL ds).any f = ds.any fun z => f z.toPy
  | [] => rfl
  | d :: ds => by rw [D.toPyL, List.any_cons, List.any_cons, any_toPy ds]
theorem ab_in (neg : Bool) : AbR2 K (fun x y H Q => rIn K neg x y H Q ∨ ((if neg then rNotInD K else rInD K) x y H Q ∨ (∃ (c : Nat) (z : Str), x = .str ⟨#[c]⟩ ∧ y = .str z ∧ Q (.bl (if neg then !decide (c ∈ z.cps.toList) else decide (c ∈ z.cps.toList))) H))) (inD neg) := fun H S x y dx dy Q Qv w rx ry q k => by
  have tp : ∀ ds, dy = .tup ds → (flatD dx = true ∧ ds.all flatD = true) ∧ Q (.bl (if neg then !inF dx ds else inF dx ds)) (vis S) → rIn K neg x y H Qv := fun ds e z => by
    subst e
    obtain ⟨a, vs, rfl, h1, h2⟩ := ry.tup
    refine ⟨a, vs, rfl, .inr h1, flat_rep (rx.flat z.1.1) z.1.1, flat_repL h2 z.1.2, ?_⟩
    rw [inF_rep (rx.flat z.1.1) z.1.1 h2 z.1.2]
    exact k _ _ _ _ (.bl _) w Step.refl z.2
  have ls : ∀ ds, dy = .lst ds → (flatD dx = true ∧ ds.all flatD = true) ∧ Q (.bl (if neg then !inF dx ds else inF dx ds)) (vis S) → rIn K neg x y H Qv := fun ds e z => by
    subst e
    obtain ⟨a, vs, rfl, h1, h2⟩ := ry.lst
    refine ⟨a, vs, rfl, .inl (SqL.of h1), flat_rep (rx.flat z.1.1) z.1.1, flat_repL h2 z.1.2, ?_⟩
    rw [inF_rep (rx.flat z.1.1) z.1.1 h2 z.1.2]
    exact k _ _ _ _ (.bl _) w Step.refl z.2
  cases dy with
  | tup ds => exact .inl (tp ds rfl (by cases dx <;> exact q))
  | lst ds =>
    cases dx with
    | tup xs =>
      refine .inr (.inl ?_)
      have e1 := rx.dp q.1.1
      have e2 := ry.dp q.1.2
      have s1 := ok_shaped q.1.1
      have s2 := ok_shaped q.1.2
      rw [D.toPy] at e2 s2
      cases neg with
      | true =>
        refine ⟨_, _, e1, e2, s1, s2, ?_⟩
        rw [any_toPy]
        exact k _ _ _ _ (.bl _) w Step.refl q.2
      | false =>
        refine ⟨_, _, e1, e2, s1, s2, ?_⟩
        rw [any_toPy]
        exact k _ _ _ _ (.bl _) w Step.refl q.2
    | _ => exact .inl (ls ds rfl q)
  | str z =>
    cases dx with
    | str c =>
      obtain ⟨n, rfl, q⟩ := q
      cases rx.str; cases ry.str
      exact .inr (.inr ⟨n, z, rfl, rfl, k _ _ _ _ (.bl _) w Step.refl q⟩)
    | _ => exact False.elim q
  | _ => cases dx <;> exact False.elim q
theorem do_in (hu : X.A.units + 65 < cLine) : DOp X (compareOp .In) (fun x y H Q => rIn X.K false x y H Q ∨ ((if false = true then rNotInD X.K else rInD X.K) x y H Q ∨ (∃ (c : Nat) (z : Str), x = .str ⟨#[c]⟩ ∧ y = .str z ∧ Q (.bl (if false = true then !decide (c ∈ z.cps.toList) else decide (c ∈ z.cps.toList))) H))) (inD false) :=
  ⟨op_in_seq.or ((op_inD hu).or op_in_sign), ab_in false⟩
theorem do_notin (hu : X.A.units + 65 < cLine) : DOp X (compareOp .NotIn) (fun x y H Q => rIn X.K true x y H Q ∨ ((if true = true then rNotInD X.K else rInD X.K) x y H Q ∨ (∃ (c : Nat) (z : Str), x = .str ⟨#[c]⟩ ∧ y = .str z ∧ Q (.bl (if true = true then !decide (c ∈ z.cps.toList) else decide (c ∈ z.cps.toList))) H))) (inD true) :=
  ⟨op_notIn_seq.or ((op_notInD hu).or op_notIn_sign), ab_in true⟩

/-! ### unary minus; conditional values; and, or, not as values -/
section
variable {a b c : Expr} {ta tb : TE} {da db : TD} {tt : TT} {dt : TDT} {pos : Pos} {rest : List Expr}
def dNeg (t : TD) : TD := fun ρ S Q => t ρ S fun d S1 => match d with
  | .int i => Q (.int (-i)) S1
  | _ => False
theorem de_neg (ha : DE X a ta da) : DE X (.UnaryOp .USub a pos) (tUn (rU fun i => .int (-i)) ta) (dNeg da) :=
  ⟨pe_un un_neg ha.pe, fun σ H ρ S Q Qv w rs q k => ha.ab σ H ρ S _ _ w rs q fun v H' d S' r w' s' q' => by
    cases d with
    | int i => cases r; exact ⟨i, rfl, k _ _ _ _ (.int _) w' s' q'⟩
    | _ => exact q'.elim⟩
def dIfE (c : TDT) (t u : TD) : TD := fun ρ S Q => c ρ S fun b S1 => Br b (t ρ S1 Q) (u ρ S1 Q)
theorem de_if (hc : DT X c tt dt) (ha : DE X a ta da) (hb : DE X b tb db) : DE X (.IfExp c a b pos) (tIf tt ta tb) (dIfE dt da db) :=
  ⟨pe_ifExp hc.pt ha.pe hb.pe, fun σ H ρ S Q Qv w rs q k => hc.ab σ H ρ S _ _ w rs q fun b H' S' w' s' q' => by
    cases b with
    | true => rw [if_pos rfl]; exact ha.ab σ H' ρ S' _ _ w' (rs.mono s') (q'.t rfl) fun v H2 d S2 r2 w2 s2 q2 => k _ _ _ _ r2 w2 (s'.trans s2) q2
    | false => rw [if_neg (by decide)]; exact hb.ab σ H' ρ S' _ _ w' (rs.mono s') (q'.f rfl) fun v H2 d S2 r2 w2 s2 q2 => k _ _ _ _ r2 w2 (s'.trans s2) q2⟩
def dAndV (t u : TD) : TD := fun ρ S Q => t ρ S fun d S1 => match d with
  | .bl b => Br b (u ρ S1 Q) (Q (.bl false) S1)
  | _ => False
def dOrV (t u : TD) : TD := fun ρ S Q => t ρ S fun d S1 => match d with
  | .bl b => Br b (Q (.bl true) S1) (u ρ S1 Q)
  | _ => False
def dNotV (t : TD) : TD := fun ρ S Q => t ρ S fun d S1 => match d with
  | .bl b => Q (.bl (!b)) S1
  | _ => False
theorem de_one {op} (h : DE X a ta da) : DE X (.BoolOp op [a] pos) ta da := ⟨pe_one h.pe, h.ab⟩
theorem de_and (ha : DE X a ta da) (hb : DE X (.BoolOp .And (b :: rest) pos) tb db) : DE X (.BoolOp .And (a :: b :: rest) pos) (tAndV ta tb) (dAndV da db) :=
  ⟨pe_and ha.pe hb.pe, fun σ H ρ S Q Qv w rs q k => ha.ab σ H ρ S _ _ w rs q fun v H' d S' r w' s' q' => by
    cases d with
    | bl b =>
      cases r
      refine ⟨b, rfl, ?_⟩
      cases b with
      | true => rw [if_pos rfl]; exact hb.ab σ H' ρ S' _ _ w' (rs.mono s') (q'.t rfl) fun v H2 d S2 r2 w2 s2 q2 => k _ _ _ _ r2 w2 (s'.trans s2) q2
      | false => rw [if_neg (by decide)]; exact k _ _ _ _ (.bl _) w' s' (q'.f rfl)
    | _ => exact q'.elim⟩
theorem de_or (ha : DE X a ta da) (hb : DE X (.BoolOp .Or (b :: rest) pos) tb db) : DE X (.BoolOp .Or (a :: b :: rest) pos) (tOrV ta tb) (dOrV da db) :=
  ⟨pe_or ha.pe hb.pe, fun σ H ρ S Q Qv w rs q k => ha.ab σ H ρ S _ _ w rs q fun v H' d S' r w' s' q' => by
    cases d with
    | bl b =>
      cases r
      refine ⟨b, rfl, ?_⟩
      cases b with
      | true => rw [if_pos rfl]; exact k _ _ _ _ (.bl _) w' s' (q'.t rfl)
      | false => rw [if_neg (by decide)]; exact hb.ab σ H' ρ S' _ _ w' (rs.mono s') (q'.f rfl) fun v H2 d S2 r2 w2 s2 q2 => k _ _ _ _ r2 w2 (s'.trans s2) q2
    | _ => exact q'.elim⟩
theorem de_not (ha : DE X a ta da) : DE X (.UnaryOp .Not a pos) (tNotV ta) (dNotV da) :=
  ⟨pe_not ha.pe, fun σ H ρ S Q Qv w rs q k => ha.ab σ H ρ S _ _ w rs q fun v H' d S' r w' s' q' => by
    cases d with
    | bl b => cases r; exact ⟨b, rfl, k _ _ _ _ (.bl _) w' s' q'⟩
    | _ => exact q'.elim⟩
/-- tests -/
theorem dw_and1 (h : DT X a tt dt) : DW X (.BoolOp .And [a] pos) tt dt := ⟨pw_and1 h.pt, h.ab⟩
theorem dw_or1 (h : DT X a tt dt) : DW X (.BoolOp .Or [a] pos) tt dt := ⟨pw_or1 h.pt, h.ab⟩
theorem dw_and {tu : TT} {du : TDT} (h : DT X a tt dt) (h' : DW X (.BoolOp .And (b :: rest) pos) tu du) : DW X (.BoolOp .And (a :: b :: rest) pos) (tAnd tt tu) (dAnd dt du) := ⟨pw_and h.pt h'.pw, ab_and h.ab h'.ab⟩
theorem dw_or {tu : TT} {du : TDT} (h : DT X a tt dt) (h' : DW X (.BoolOp .Or (b :: rest) pos) tu du) : DW X (.BoolOp .Or (a :: b :: rest) pos) (tOr tt tu) (dOr dt du) := ⟨pw_or h.pt h'.pw, ab_or h.ab h'.ab⟩
theorem dt_not (h : DT X a tt dt) : DT X (.UnaryOp .Not a pos) (tNot tt) (dNot dt) := ⟨pt_not h.pt, ab_not h.ab⟩
end

/-! ### argument lists, displays -/
def dNil : TDA := fun _ S Q => Q [] S
def dCons (t : TD) (u : TDA) : TDA := fun ρ S Q => t ρ S fun d S1 => u ρ S1 fun ds S2 => Q (d :: ds) S2
def dStar (t : TD) (u : TDA) : TDA := fun ρ S Q => t ρ S fun d S1 => PeekP S1 d fun d' => match d' with
  | .tup xs => u ρ S1 fun ds S2 => Q (xs ++ ds) S2
  | .lst xs => u ρ S1 fun ds S2 => Q (xs ++ ds) S2
  | _ => False
section
variable {e : Expr} {es : List Expr} {te : TE} {ta : TA} {d : TD} {da : TDA} {pos p : Pos}
theorem da_nil : DA X [] tNil dNil := ⟨pa_nil, fun σ H ρ S Q Qv w rs q k => k _ _ _ _ .nil w Step.refl q⟩
theorem da_cons (h : DE X e te d) (hr : DA X es ta da) (hs : starEach (e :: es) X.env = (false, eval e X.env) :: starEach es X.env := by rfl) : DA X (e :: es) (tCons te ta) (dCons d da) :=
  ⟨pa_cons h.pe hr.pa hs, fun σ H ρ S Q Qv w rs q k => h.ab σ H ρ S _ _ w rs q fun v H1 x S1 r1 w1 s1 q1 => hr.ab σ H1 ρ S1 _ _ w1 (rs.mono s1) q1 fun vs H2 ds S2 r2 w2 s2 q2 =>
    k _ _ _ _ (.cons (r1.mono s2) r2) w2 (s1.trans s2) q2⟩
theorem da_star (h : DE X e te d) (hr : DA X es ta da) (hs : starEach (.Starred e p :: es) X.env = (true, eval e X.env) :: starEach es X.env := by rfl) : DA X (.Starred e p :: es) (StX.tStar X.K te ta) (dStar d da) :=
  ⟨StX.pa_star h.pe hr.pa hs, fun σ H ρ S Q Qv w rs q k => h.ab σ H ρ S _ _ w rs q fun v H1 x S1 r1 w1 s1 q1 => by
    have rr := peek_rep w1 r1
    have q1 := q1.go
    generalize peek (vis S1) x = x' at rr q1
    cases x' with
    | tup xs =>
      obtain ⟨a, us, rfl, h1, h2⟩ := rr.tup
      exact ⟨a, us, rfl, .inl h1, hr.ab σ H1 ρ S1 _ _ w1 (rs.mono s1) q1 fun vs H2 ds S2 r2 w2 s2 q2 => k _ _ _ _ ((h2.mono s2).append r2) w2 (s1.trans s2) q2⟩
    | lst xs =>
      obtain ⟨a, us, rfl, h1, h2⟩ := rr.lst
      exact ⟨a, us, rfl, .inr (SqL.of h1), hr.ab σ H1 ρ S1 _ _ w1 (rs.mono s1) q1 fun vs H2 ds S2 r2 w2 s2 q2 => k _ _ _ _ ((h2.mono s2).append r2) w2 (s1.trans s2) q2⟩
    | _ => exact q1.elim⟩
def dTup (t : TDA) : TD := fun ρ S Q => t ρ S fun ds S1 => SzOk ds.length ∧ Q (.tup ds) S1
def dLst (t : TDA) : TD := fun ρ S Q => t ρ S fun ds S1 => SzOk ds.length ∧ Q (.lst ds) S1
/-- a list that is owned -/
def dLstO (t : TDA) : TD := fun ρ S Q => t ρ S fun ds S1 => SzOk ds.length ∧ ∀ p, S1 p = none → Q (.ref p) (updS S1 p (.lst ds))
theorem de_tup {x1} (h : DA X es ta da) : DE X (.Tuple es x1 pos) (tTup ta) (dTup da) :=
  ⟨pe_tup h.pa, fun σ H ρ S Q Qv w rs q k => h.ab σ H ρ S _ _ w rs q fun vs H1 ds S1 r1 w1 s1 q1 => ⟨by rw [r1.length]; exact q1.1.le, fun p hp =>
    k _ _ _ _ (.tup upd_same (w1.free hp) (r1.mono (Step.new w1 hp))) (w1.new hp) (s1.trans (Step.new w1 hp)) q1.2⟩⟩
theorem de_lst (h : DA X es ta da) : DE X (.List es pos) (tLst ta) (dLst da) :=
  ⟨pe_lst h.pa, fun σ H ρ S Q Qv w rs q k => h.ab σ H ρ S _ _ w rs q fun vs H1 ds S1 r1 w1 s1 q1 => ⟨by rw [r1.length]; exact q1.1.le, fun p hp =>
    k _ _ _ _ (.lst upd_same (w1.free hp) (r1.mono (Step.new w1 hp))) (w1.new hp) (s1.trans (Step.new w1 hp)) q1.2⟩⟩
theorem de_lstO (h : DA X es ta da) : DE X (.List es pos) (tLst ta) (dLstO da) :=
  ⟨pe_lst h.pa, fun σ H ρ S Q Qv w rs q k => h.ab σ H ρ S _ _ w rs q fun vs H1 ds S1 r1 w1 s1 q1 => ⟨by rw [r1.length]; exact q1.1.le, fun p hp =>
    k _ _ _ _ (.ref p) (w1.newS (m := .lst ds) hp ⟨vs, upd_same, r1.mono (Step.newS w1 hp)⟩) (s1.trans (Step.newS w1 hp)) (by rw [vis_upd (by intro z; cases z)]; exact q1.2 p (vis_none (w1.free hp)))⟩⟩
end

/-! ### calls of built-ins, by data -/
abbrev RDC := List D → Sto → DQ → Prop
inductive RepRL (K : PySem.W.Frag) (H : Hp) (S : Sto) : List V → List D → Prop
  | nil : RepRL K H S [] []
  | cons {v : V} {vs : List V} {d : D} {ds : List D} : RepR K H S v d → RepRL K H S vs ds → RepRL K H S (v :: vs) (d :: ds)
theorem peek_repL {H : Hp} {S : Sto} (w : Wd K H S) : ∀ {vs : List V} {ds : List D}, RepL K H S vs ds → RepRL K H S vs (ds.map (peek (vis S)))
  | _, _, .nil => .nil
  | _, _, .cons r t => .cons (peek_rep w r) (peek_repL w t)
def AbC (K : PySem.W.Frag) (r : List V → Hp → VK → Prop) (rd : RDC) : Prop := ∀ (H : Hp) (S : Sto) (vs : List V) (ds : List D) (Q : DQ) (Qv : VK), Wd K H S → RepRL K H S vs ds → rd ds (vis S) Q →
  (∀ v H' d S', Rep K H' S' v d → Wd K H' S' → Step H S H' S' → Q d (vis S') → Qv v H') → r vs H Qv
/-- a call on values as they are read -/
structure CbP (rd : RDC) (ds : List D) (S : Sto) (Q : DQ) : Prop where
  go : rd (ds.map (peek S)) S Q
theorem CbP.of1 {rd : RDC} {a a' : D} {S : Sto} {Q : DQ} (h : peek S a = a') (q : rd [a'] S Q) : CbP rd [a] S Q := ⟨by rw [List.map_cons, List.map_nil, h]; exact q⟩
theorem CbP.of2 {rd : RDC} {a a' b b' : D} {S : Sto} {Q : DQ} (h : peek S a = a') (h2 : peek S b = b') (q : rd [a', b'] S Q) : CbP rd [a, b] S Q := ⟨by rw [List.map_cons, List.map_cons, List.map_nil, h, h2]; exact q⟩
def dCB (rd : RDC) (t : TDA) : TD := fun ρ S Q => t ρ S fun ds S1 => CbP rd ds S1 Q
theorem ab_cb {r : List V → Hp → VK → Prop} {rd : RDC} {ta : TA} {da : TDA} (hr : AbC K r rd) (ha : AbA K ta da) : Ab K (tCB r ta) (dCB rd da) := fun σ H ρ S Q Qv w rs q k => ha σ H ρ S _ _ w rs q fun vs H1 ds S1 r1 w1 s1 q1 =>
  hr H1 S1 vs _ Q Qv w1 (peek_repL w1 r1) q1.go fun v H2 d S2 r2 w2 s2 q2 => k _ _ _ _ r2 w2 (s1.trans s2) q2
structure DC (X : Cx) (f : Value) (r : List V → Hp → VK → Prop) (rd : RDC) : Prop where
  cr : CallR X f r
  ab : AbC X.K r rd
theorem DC.or {f : Value} {r r' : List V → Hp → VK → Prop} {rd rd' rr : RDC} (h : DC X f r rd) (h' : DC X f r' rd') (hr : ∀ xs S Q, rr xs S Q → rd xs S Q ∨ rd' xs S Q) : DC X f (fun xs H Q => r xs H Q ∨ r' xs H Q) rr :=
  ⟨h.cr.or h'.cr, fun H S vs ds Q Qv w rv q k => by
    rcases hr _ _ _ q with q | q
    · exact .inl (h.ab H S vs ds Q Qv w rv q k)
    · exact .inr (h'.ab H S vs ds Q Qv w rv q k)⟩
section
variable {x : Str} {p pos : Pos} {e : Expr} {es : List Expr} {t : TA} {da : TDA} {id T : String} {r : List V → Hp → VK → Prop} {rd : RDC}
theorem de_callB (hc : DC X (.builtin id) r rd) (hg : Gl X x) (hm : X.mg x = none) (hv : bootBuiltins x = some (.builtin id)) (ha : DA X (e :: es) t da) (hn : x ≠ "__name__" := by decide) (hdb : (x == ("__debug__" : Str)) = false := by decide)
    (he : starEach (e :: es) X.env = (false, eval e X.env) :: starEach es X.env := by rfl) (hpl : (backTo pos (starEach es X.env)).any (·.1) = false := by rfl) : DE X (.Call (.Name x p) (e :: es) [] pos) (tCB r t) (dCB rd da) :=
  ⟨pe_callB hc.cr hg hm hv ha.pa hn hdb he hpl, ab_cb hc.ab ha.ab⟩
theorem de_callTy (hc : DC X (.type T) r rd) (hg : Gl X x) (hm : X.mg x = none) (hv : bootBuiltins x = some (.type T)) (ha : DA X (e :: es) t da) (hn : x ≠ "__name__" := by decide) (hdb : (x == ("__debug__" : Str)) = false := by decide)
    (he : starEach (e :: es) X.env = (false, eval e X.env) :: starEach es X.env := by rfl) (hpl : (backTo pos (starEach es X.env)).any (·.1) = false := by rfl) : DE X (.Call (.Name x p) (e :: es) [] pos) (tCB r t) (dCB rd da) :=
  ⟨pe_callTy hc.cr hg hm hv ha.pa hn hdb he hpl, ab_cb hc.ab ha.ab⟩
end
/-- len -/
def lenD : RDC := fun xs S Q => match xs with
  | [.str x] => SzOk x.length ∧ Q (.int x.length) S
  | [.lst ds] => Q (.int ds.length) S
  | [.tup ds] => Q (.int ds.length) S
  | [.fz ds] => Q (.int ds.length) S
  | _ => False
theorem dc_len : DC X (.builtin "len") (fun xs H Q => ∃ x n, xs = [x] ∧ LenV X.K x H n ∧ Q (.int n) H) lenD :=
  ⟨call_len, fun H S vs ds Q Qv w rv q k => by
    cases rv with
    | nil => exact False.elim q
    | cons r t =>
      cases t with
      | cons _ _ => rename_i d _ _ _ _ _ _; cases d <;> exact False.elim q
      | nil =>
        rename_i v d
        cases d with
        | str x => cases r.str; exact ⟨_, x.length, rfl, ⟨q.1.le, rfl⟩, k _ _ _ _ (.int _) w Step.refl q.2⟩
        | lst es =>
          obtain ⟨a, us, rfl, h1, h2⟩ := r.lst
          exact ⟨_, es.length, rfl, .inl ⟨us, SqL.of h1, h2.length.symm⟩, k _ _ _ _ (.int _) w Step.refl q⟩
        | tup es =>
          obtain ⟨a, us, rfl, h1, h2⟩ := r.tup
          exact ⟨_, es.length, rfl, .inr ⟨us, h1, h2.length.symm⟩, k _ _ _ _ (.int _) w Step.refl q⟩
        | fz es =>
          obtain ⟨a, us, rfl, h1, h2⟩ := r.fz
          exact ⟨_, es.length, rfl, .inl ⟨us, h1, h2.length.symm⟩, k _ _ _ _ (.int _) w Step.refl q⟩
        | _ => exact False.elim q⟩
/-- int of an int or a bool -/
def toIntD : RDC := fun xs S Q => match xs with
  | [.int i] => Q (.int i) S
  | [.bl b] => Q (.int (if b then 1 else 0)) S
  | _ => False
theorem dc_int : DC X (.type "int") (fun xs H Q => (∃ i, xs = [.int i] ∧ Q (.int i) H) ∨ ∃ k, xs = [.bl k] ∧ Q (.int (if k then 1 else 0)) H) toIntD :=
  ⟨call_int1, fun H S vs ds Q Qv w rv q k => by
    cases rv with
    | nil => exact False.elim q
    | cons r t =>
      cases t with
      | cons _ _ => rename_i d _ _ _ _ _ _; cases d <;> exact False.elim q
      | nil =>
        rename_i v d
        cases d with
        | int i => cases r.int; exact .inl ⟨i, rfl, k _ _ _ _ (.int _) w Step.refl q⟩
        | bl b => cases r.bl; exact .inr ⟨b, rfl, k _ _ _ _ (.int _) w Step.refl q⟩
        | _ => exact False.elim q⟩
/-- max, min of two ints -/
def maxD : RDC := fun xs S Q => match xs with
  | [.int i, .int j] => Q (.int (max i j)) S
  | _ => False
def minD : RDC := fun xs S Q => match xs with
  | [.int i, .int j] => Q (.int (min i j)) S
  | _ => False
theorem dc_max (hc : X.calm = true) : DC X (.builtin "max") (fun xs H Q => ∃ i j, xs = [.int i, .int j] ∧ Q (.int (if j > i then j else i)) H) maxD :=
  ⟨call_max2 hc, fun H S vs ds Q Qv w rv q k => by
    unfold maxD at q
    split at q
    · rename_i i j
      cases rv with
      | cons r t =>
        cases t with
        | cons r' t =>
          cases t
          cases r.int; cases r'.int
          refine ⟨i, j, rfl, ?_⟩
          have e : (if j > i then j else i) = max i j := by omega
          rw [e]
          exact k _ _ _ _ (.int _) w Step.refl q
    · exact False.elim q⟩
theorem dc_min (hc : X.calm = true) : DC X (.builtin "min") (fun xs H Q => ∃ i j, xs = [.int i, .int j] ∧ Q (.int (if j < i then j else i)) H) minD :=
  ⟨call_min2 hc, fun H S vs ds Q Qv w rv q k => by
    unfold minD at q
    split at q
    · rename_i i j
      cases rv with
      | cons r t =>
        cases t with
        | cons r' t =>
          cases t
          cases r.int; cases r'.int
          refine ⟨i, j, rfl, ?_⟩
          have e : (if j < i then j else i) = min i j := by omega
          rw [e]
          exact k _ _ _ _ (.int _) w Step.refl q
    · exact False.elim q⟩
/-- abs -/
def absD : RDC := fun xs S Q => match xs with
  | [.int i] => Q (.int (if i < 0 then -i else i)) S
  | _ => False
theorem dc_abs : DC X (.builtin "abs") (fun xs H Q => ∃ i, xs = [.int i] ∧ Q (.int (if i < 0 then -i else i)) H) absD :=
  ⟨call_abs, fun H S vs ds Q Qv w rv q k => by
    unfold absD at q
    split at q
    · rename_i i
      cases rv with
      | cons r t => cases t; cases r.int; exact ⟨i, rfl, k _ _ _ _ (.int _) w Step.refl q⟩
    · exact False.elim q⟩
/-- sum of a list of ints -/
def sumD : RDC := fun xs S Q => match xs with
  | [.lst ds] => ∃ ns : List Int, ds = ns.map D.int ∧ Q (.int ns.sum) S
  | _ => False
theorem dc_sum (hc : X.calm = true) : DC X (.builtin "sum") (rSum X.K) sumD :=
  ⟨cr_sum hc, fun H S vs ds Q Qv w rv q k => by
    unfold sumD at q
    split at q
    · obtain ⟨ns, rfl, q⟩ := q
      cases rv with
      | cons r t =>
        cases t
        obtain ⟨a, us, rfl, h1, h2⟩ := r.lst
        rw [RepL.ints_of h2] at h1
        exact ⟨a, ns, rfl, SqL.of h1, k _ _ _ _ (.int _) w Step.refl q⟩
    · exact False.elim q⟩
/-- all of a list of bools -/
def allD : RDC := fun xs S Q => match xs with
  | [.lst ds] => ∃ ns : List Bool, ds = ns.map D.bl ∧ Q (.bl (ns.all id)) S
  | _ => False
theorem dc_all (hc : X.calm = true) : DC X (.builtin "all") (rAll X.K) allD :=
  ⟨cr_all hc, fun H S vs ds Q Qv w rv q k => by
    unfold allD at q
    split at q
    · obtain ⟨ns, rfl, q⟩ := q
      cases rv with
      | cons r t =>
        cases t
        obtain ⟨a, us, rfl, h1, h2⟩ := r.lst
        rw [RepL.bls_of h2] at h1
        exact ⟨a, ns, rfl, SqL.of h1, k _ _ _ _ (.bl _) w Step.refl q⟩
    · exact False.elim q⟩
/-- list(..), tuple(..) -/
def listD : RDC := fun xs S Q => match xs with
  | [.lst ds] => Q (.lst ds) S
  | [.tup ds] => Q (.lst ds) S
  | [.fz ds] => Q (.lst ds) S
  | _ => False
def tupleD : RDC := fun xs S Q => match xs with
  | [.lst ds] => Q (.tup ds) S
  | [.tup ds] => Q (.tup ds) S
  | _ => False
theorem dc_list : DC X (.type "list") (fun xs H Q => ∃ p ys, xs = [.ref p] ∧ (SqL X.K H p ys ∨ SqT X.K H p ys) ∧ ∀ l, H l = none → Q (.ref l) (upd H l (.lst ys))) listD :=
  ⟨call_list_of, fun H S vs ds Q Qv w rv q k => by
    have fin : ∀ {us es}, RepL X.K H S us es → Q (.lst es) (vis S) → ∀ l, H l = none → Qv (.ref l) (upd H l (.lst us)) := fun r z l hl =>
      k _ _ _ _ (.lst upd_same (w.free hl) (r.mono (Step.new w hl))) (w.new hl) (Step.new w hl) z
    unfold listD at q
    split at q
    · cases rv with
      | cons r t =>
        cases t
        obtain ⟨a, us, rfl, h1, h2⟩ := r.lst
        exact ⟨a, us, rfl, .inl (SqL.of h1), fin h2 q⟩
    · cases rv with
      | cons r t =>
        cases t
        obtain ⟨a, us, rfl, h1, h2⟩ := r.tup
        exact ⟨a, us, rfl, .inr h1, fin h2 q⟩
    · cases rv with
      | cons r t =>
        cases t
        obtain ⟨a, us, rfl, h1, h2⟩ := r.fz
        exact ⟨a, us, rfl, .inl h1, fin h2 q⟩
    · exact False.elim q⟩
theorem dc_tuple : DC X (.type "tuple") (fun xs H Q => ∃ p ys, xs = [.ref p] ∧ ((SqL X.K H p ys ∧ ∀ l, H l = none → Q (.ref l) (upd H l (.tup ys))) ∨ (SqT X.K H p ys ∧ Q (.ref p) H))) tupleD :=
  ⟨call_tuple_of, fun H S vs ds Q Qv w rv q k => by
    unfold tupleD at q
    split at q
    · cases rv with
      | cons r t =>
        cases t
        obtain ⟨a, us, rfl, h1, h2⟩ := r.lst
        exact ⟨a, us, rfl, .inl ⟨SqL.of h1, fun l hl => k _ _ _ _ (.tup upd_same (w.free hl) (h2.mono (Step.new w hl))) (w.new hl) (Step.new w hl) q⟩⟩
    · cases rv with
      | cons r t =>
        cases t
        obtain ⟨a, us, rfl, h1, h2⟩ := r.tup
        exact ⟨a, us, rfl, .inr ⟨h1, k _ _ _ _ r.keep w Step.refl q⟩⟩
    · exact False.elim q⟩
/-- str of an int -/
def strD : RDC := fun xs S Q => match xs with
  | [.int i] => i.natAbs.log2 < 1920 ∧ Q (.str (toString i)) S
  | _ => False
theorem dc_str : DC X (.type "str") (fun xs H Q => ∃ i, xs = [.int i] ∧ i.natAbs.log2 < 1920 ∧ Q (.str (toString i)) H) strD :=
  ⟨call_str_int, fun H S vs ds Q Qv w rv q k => by
    unfold strD at q
    split at q
    · rename_i i
      cases rv with
      | cons r t => cases t; cases r.int; exact ⟨i, rfl, q.1, k _ _ _ _ (.str _) w Step.refl q.2⟩
    · exact False.elim q⟩
end
end DL

namespace DL
open PySem PySem.Spec PyProof.Rows L2
section
variable {X : Cx} {K : PySem.W.Frag}
/-! ### promises -/
abbrev DSp := List D → Sto → DQ → Prop
def toSp (K : PySem.W.Frag) (d : DSp) : Sp := fun vs H Q _ => ∃ ds S Qd, RepL K H S vs ds ∧ Wd K H S ∧ d ds (vis S) Qd ∧ ∀ v H' r S', Rep K H' S' v r → Wd K H' S' → Step H S H' S' → Qd r (vis S') → Q v H'
def dCall (sp : DSp) (t : TDA) : TD := fun ρ S Q => t ρ S fun ds S1 => sp ds S1 Q
theorem ab_call {sp : DSp} {ta : TA} {da : TDA} (ha : AbA K ta da) : Ab K (tCall (toSp K sp) [] E0 ta) (dCall sp da) := fun σ H ρ S Q Qv w rs q k => ha σ H ρ S _ _ w rs q fun vs H1 ds S1 r1 w1 s1 q1 =>
  ⟨ds, S1, Q, by rw [List.append_nil]; exact r1, w1, q1, fun v H' r S' r2 w2 s2 q2 => k _ _ _ _ r2 w2 (s1.trans s2) q2⟩
section
variable {k : Nat} {f : Addr} {fd : FuncData} {ps : List Str} {sp : DSp} {x : Str} {p pos : Pos} {e : Expr} {es : List Expr} {t : TA} {da : TDA}
theorem de_call (F : FnOk X.prog X.w X.K X.mg X.base CX0 k f fd ps (toSp X.K sp)) (hr : Room k X.A) (hg : Gl X x) (hm : X.mg x = some (.ref f)) (hk : PySem.W.keepIn X.K (.ref f) = true) (hb : Binds X.K fd ps [])
    (ha : DA X (e :: es) t da) (hdb : (x == ("__debug__" : Str)) = false := by decide) (he : starEach (e :: es) X.env = (false, eval e X.env) :: starEach es X.env := by rfl) (hpl : (backTo pos (starEach es X.env)).any (·.1) = false := by rfl) :
    DE X (.Call (.Name x p) (e :: es) [] pos) (tCall (toSp X.K sp) [] E0 t) (dCall sp da) := ⟨pe_call F hr hg hm hk hb .nil pass0 ha.pa hdb he hpl, ab_call ha.ab⟩
theorem de_call0 (F : FnOk X.prog X.w X.K X.mg X.base CX0 k f fd ps (toSp X.K sp)) (hr : Room k X.A) (hg : Gl X x) (hm : X.mg x = some (.ref f)) (hk : PySem.W.keepIn X.K (.ref f) = true) (hb : Binds X.K fd ps [])
    (hdb : (x == ("__debug__" : Str)) = false := by decide) : DE X (.Call (.Name x p) [] [] pos) (tCall (toSp X.K sp) [] E0 tNil) (dCall sp dNil) := ⟨pe_call0 F hr hg hm hk hb .nil pass0 hdb, ab_call (da_nil (X := X)).ab⟩
end

/-! ### subscripts -/
/-- an item that is there -/
inductive TheItem {α : Type} : Option α → (α → Prop) → Prop
  | mk {d : α} {Q : α → Prop} : Q d → TheItem (some d) Q
theorem TheItem.of {α : Type} {o : Option α} {d : α} {Q : α → Prop} (h : o = some d) (q : Q d) : TheItem o Q := by rw [h]; exact .mk q
theorem TheItem.get {α : Type} {o : Option α} {Q : α → Prop} (h : TheItem o Q) : ∃ d, o = some d ∧ Q d := by
  cases h with
  | mk q => exact ⟨_, rfl, q⟩
def ixD : RD2 := fun x y S Q => match x, y with
  | .lst ds, .int i => TheItem (atI ds i) fun d => Q d S
  | .fz ds, .int i => TheItem (atI ds i) fun d => Q d S
  | .tup ds, .int i => TheItem (atI ds i) fun d => Q d S
  | .str z, .int i => SzOk z.length ∧ TheItem (atI z.cps.toList i) fun c => Q (.str ⟨#[c]⟩) S
  | _, _ => False
theorem at0 {α : Type} {a : α} {r : List α} : atI (a :: r) 0 = some a := atI_nat (j := 0) rfl
theorem at1 {α : Type} {a b : α} {r : List α} : atI (a :: b :: r) 1 = some b := atI_nat (j := 1) rfl
theorem at2 {α : Type} {a b c : α} {r : List α} : atI (a :: b :: c :: r) 2 = some c := atI_nat (j := 2) rfl
theorem at3 {α : Type} {a b c d : α} {r : List α} : atI (a :: b :: c :: d :: r) 3 = some d := atI_nat (j := 3) rfl
theorem at4 {α : Type} {a b c d e : α} {r : List α} : atI (a :: b :: c :: d :: e :: r) 4 = some e := atI_nat (j := 4) rfl
theorem ixN3_1 : ixN 3 1 = some 1 := rfl
theorem ixN3_2 : ixN 3 2 = some 2 := rfl
theorem at_rep {H : Hp} {S : Sto} {vs : List V} {ds : List D} {i : Int} {d : D} (r : RepL K H S vs ds) (h : atI ds i = some d) : ∃ v, atI vs i = some v ∧ Rep K H S v d := by
  unfold atI at h ⊢
  rw [r.length]
  cases e : ixN ds.length i with
  | none => rw [e] at h; cases h
  | some j =>
    rw [e] at h
    exact r.get (i := j) h
theorem ab_ix : AbR2 K (rIx K) ixD := fun H S x y dx dy Q Qv w rx ry q k => by
  cases dx <;> cases dy <;> first | exact False.elim q | skip
  · rename_i z i
    cases rx.str; cases ry.int
    obtain ⟨hz, q⟩ := q
    obtain ⟨c, h, q⟩ := TheItem.get q
    exact .inr (.inr ⟨z, i, c, rfl, rfl, hz.le, h, k _ _ _ _ (.str _) w Step.refl q⟩)
  · rename_i ds i
    obtain ⟨a, vs, rfl, h1, h2⟩ := rx.tup
    cases ry.int
    obtain ⟨d, h, q⟩ := TheItem.get q
    obtain ⟨v, e, r⟩ := at_rep h2 h
    exact .inr (.inl ⟨a, vs, i, v, rfl, rfl, h1, e, k _ _ _ _ r w Step.refl q⟩)
  · rename_i ds i
    obtain ⟨a, vs, rfl, h1, h2⟩ := rx.lst
    cases ry.int
    obtain ⟨d, h, q⟩ := TheItem.get q
    obtain ⟨v, e, r⟩ := at_rep h2 h
    exact .inl ⟨a, vs, i, v, rfl, rfl, SqL.of h1, e, k _ _ _ _ r w Step.refl q⟩
  · rename_i ds i
    obtain ⟨a, vs, rfl, h1, h2⟩ := rx.fz
    cases ry.int
    obtain ⟨d, h, q⟩ := TheItem.get q
    obtain ⟨v, e, r⟩ := at_rep h2 h
    exact .inl ⟨a, vs, i, v, rfl, rfl, h1, e, k _ _ _ _ r w Step.refl q⟩
theorem de_ix {a b : Expr} {ta tb : TE} {da db : TD} {pos : Pos} (ha : DE X a ta da) (hb : DE X b tb db) (hs : PlainIx b := by intro _ _; rfl) : DE X (.Subscript a b pos) (tOp (rIx X.K) ta tb) (dOp ixD da db) :=
  ⟨pe_ix ix_seq ha.pe hb.pe hs, ab_op ab_ix ha.ab hb.ab⟩
/-! slices -/
def cutL {α : Type} (xs : List α) (lo hi : Option Int) : List α := (xs.drop (HT.sIx xs.length 0 lo)).take (HT.sIx xs.length xs.length hi - HT.sIx xs.length 0 lo)
abbrev TDO := DSt → Sto → (Option Int → Sto → Prop) → Prop
def AbO (K : PySem.W.Frag) (te : TO) (t : TDO) : Prop := ∀ (σ : L2.St) (H : Hp) (ρ : DSt) (S : Sto) (Q : Option Int → Sto → Prop) (Qv : Option Int → Hp → Prop), Wd K H S → RepSt K H S σ ρ → t ρ (vis S) Q →
  (∀ o H' S', Wd K H' S' → Step H S H' S' → Q o (vis S') → Qv o H') → te σ H Qv
structure DO (X : Cx) (e : Option Expr) (te : TO) (t : TDO) : Prop where
  po : PO X e te
  ab : AbO X.K te t
def dNoPart : TDO := fun _ S Q => Q none S
def dPart (t : TD) : TDO := fun ρ S Q => t ρ S fun d S1 => match d with
  | .int i => Q (some i) S1
  | _ => False
theorem dpo_none : DO X none tNoPart dNoPart := ⟨po_none, fun σ H ρ S Q Qv w rs q k => k _ _ _ w Step.refl q⟩
theorem dpo_some {e : Expr} {te : TE} {t : TD} (h : DE X e te t) : DO X (some e) (tPart te) (dPart t) := ⟨po_some h.pe, fun σ H ρ S Q Qv w rs q k => h.ab σ H ρ S _ _ w rs q fun v H' d S' r w' s' q' => by
  cases d with
  | int i => cases r; exact ⟨i, rfl, k _ _ _ w' s' q'⟩
  | _ => exact q'.elim⟩
def slD (d : D) (lo hi : Option Int) (S : Sto) (Q : DQ) : Prop := match d with
  | .lst ds => Q (.lst (cutL ds lo hi)) S
  | .tup ds => Q (.tup (cutL ds lo hi)) S
  | .str z => SzOk z.length ∧ Q (.str (cutS z lo hi)) S
  | _ => False
def dSl (t : TD) (tl th : TDO) : TD := fun ρ S Q => t ρ S fun d S1 => tl ρ S1 fun lo S2 => th ρ S2 fun hi S3 => PeekP S3 d fun d' => slD d' lo hi S3 Q
theorem cut_rep {H : Hp} {S : Sto} {vs : List V} {ds : List D} (r : RepL K H S vs ds) (lo hi : Option Int) : RepL K H S (cutV vs lo hi) (cutL ds lo hi) := by
  unfold cutV cutL
  rw [r.length]
  exact (r.drop _).take _
def rSl (K : PySem.W.Frag) : V → Option Int → Option Int → Hp → VK → Prop := fun x lo hi H Q => rSlL K x lo hi H Q ∨ (rSlA K x lo hi H Q ∨ rSlS x lo hi H Q)
theorem de_sl {e : Expr} {lo hi : Option Expr} {te : TE} {d : TD} {tl th : TO} {dl dh : TDO} {p2 pos : Pos} (he : DE X e te d) (hl : DO X lo tl dl) (hh : DO X hi th dh) : DE X (.Subscript e (.Slice lo hi none p2) pos) (tSl (rSl X.K) te tl th) (dSl d dl dh) :=
  ⟨pe_slice (sl_list.or (sl_tupA.or sl_str)) he.pe hl.po hh.po, fun σ H ρ S Q Qv w rs q k => he.ab σ H ρ S _ _ w rs q fun v H1 x S1 r1 w1 s1 q1 => hl.ab σ H1 ρ S1 _ _ w1 (rs.mono s1) q1 fun lo H2 S2 w2 s2 q2 => hh.ab σ H2 ρ S2 _ _ w2 (rs.mono (s1.trans s2)) q2 fun hi H3 S3 w3 s3 q3 => by
    have rr := peek_rep w3 (r1.mono (s2.trans s3))
    have st := (s1.trans s2).trans s3
    have q3 := q3.go
    generalize peek (vis S3) x = x' at rr q3
    cases x' with
    | lst ds =>
      obtain ⟨a, vs, rfl, h1, h2⟩ := rr.lst
      exact .inl ⟨a, vs, rfl, SqL.of h1, fun p hp => k _ _ _ _ (.lst upd_same (w3.free hp) ((cut_rep h2 lo hi).mono (Step.new w3 hp))) (w3.new hp) (st.trans (Step.new w3 hp)) q3⟩
    | tup ds =>
      obtain ⟨a, vs, rfl, h1, h2⟩ := rr.tup
      refine .inr (.inl ⟨a, vs, rfl, h1, fun e => ?_, fun _ p hp => k _ _ _ _ (.tup upd_same (w3.free hp) ((cut_rep h2 lo hi).mono (Step.new w3 hp))) (w3.new hp) (st.trans (Step.new w3 hp)) q3⟩)
      have e2 : cutL ds lo hi = ds := by
        unfold cutL
        rw [← h2.length, e.1, e.2, List.drop_zero, Nat.sub_zero, h2.length]
        exact List.take_length
      have q4 : Q (.tup (cutL ds lo hi)) (vis S3) := q3
      rw [e2] at q4
      exact k _ _ _ _ rr.keep w3 st q4
    | str z =>
      cases rr.str
      exact .inr (.inr ⟨z, rfl, q3.1.le, k _ _ _ _ (.str _) w3 st q3.2⟩)
    | _ => exact q3.elim⟩

/-! ### targets -/
abbrev TDG := D → DSt → Sto → (DSt → Sto → Prop) → Prop
abbrev TDGs := List D → DSt → Sto → (DSt → Sto → Prop) → Prop
/-- slots is: those it may store into -/
def AbG (K : PySem.W.Frag) (te : TG) (t : TDG) (is : List Nat) : Prop := ∀ (v : V) (d : D) (σ : L2.St) (H : Hp) (ρ : DSt) (S : Sto) (Q : DSt → Sto → Prop) (Qv : L2.St → Hp → Prop), Rep K H S v d → Wd K H S → RepSt K H S σ ρ → t d ρ (vis S) Q →
  (∀ σ' H' ρ' S', RepSt K H' S' σ' ρ' → Wd K H' S' → Step H S H' S' → (∀ vs : List Nat, (∀ i ∈ is, i ∈ vs) → L2.wipe σ' vs = L2.wipe σ vs) → Q ρ' (vis S') → Qv σ' H') → te v σ H Qv
def AbGs (K : PySem.W.Frag) (te : TGs) (t : TDGs) (is : List Nat) : Prop := ∀ (v : List V) (d : List D) (σ : L2.St) (H : Hp) (ρ : DSt) (S : Sto) (Q : DSt → Sto → Prop) (Qv : L2.St → Hp → Prop), RepL K H S v d → Wd K H S → RepSt K H S σ ρ → t d ρ (vis S) Q →
  (∀ σ' H' ρ' S', RepSt K H' S' σ' ρ' → Wd K H' S' → Step H S H' S' → (∀ vs : List Nat, (∀ i ∈ is, i ∈ vs) → L2.wipe σ' vs = L2.wipe σ vs) → Q ρ' (vis S') → Qv σ' H') → te v σ H Qv
structure DG (X : Cx) (e : Expr) (te : TG) (t : TDG) (is : List Nat) : Prop where
  pg : PG X e te
  ab : AbG X.K te t is
structure DGs (X : Cx) (e : List Expr) (te : TGs) (t : TDGs) (is : List Nat) : Prop where
  pg : PGs X e te
  ab : AbGs X.K te t is
def dgName (i : Nat) : TDG := fun d ρ S Q => Q (ρ.set i (some d)) S
theorem wipe_set {σ : L2.St} {i : Nat} {x : Option V} : ∀ {vs : List Nat}, i ∈ vs → L2.wipe (σ.set i x) vs = L2.wipe σ vs
  | [], h => by cases h
  | v :: vs, h => by
    show (L2.wipe (σ.set i x) vs).set v none = (L2.wipe σ vs).set v none
    by_cases hv : i ∈ vs
    · rw [wipe_set hv]
    · have e : i = v := by rcases List.mem_cons.mp h with q | q; exact q; exact absurd q hv
      subst e
      have z : ∀ (us : List Nat) (τ : L2.St), (L2.wipe (τ.set i x) us).set i none = (L2.wipe τ us).set i none := fun us => by
        induction us with
        | nil => intro τ; show (τ.set i x).set i none = τ.set i none; rw [List.set_set]
        | cons u us ih =>
          intro τ
          show ((L2.wipe (τ.set i x) us).set u none).set i none = ((L2.wipe τ us).set u none).set i none
          by_cases q : u = i
          · subst q; rw [List.set_set, List.set_set, ih]
          · rw [List.set_comm _ _ q, List.set_comm _ _ q, ih]
      exact z vs σ
theorem dg_name {i : Nat} {x : Str} {pos : Pos} (hN : X.N.Nodup) (hi : X.N[i]? = some x := by rfl) (hx : Loc X.env.scope x := by first | exact Or.inl rfl | exact Or.inr rfl) (hf : X.fn x = true ∨ X.env.scope.names.lookup x = some .local := by first | exact .inl rfl | exact .inr rfl | assumption) : DG X (.Name x pos) (gName i) (dgName i) [i] :=
  ⟨pg_name hN hi hx hf, fun v d σ H ρ S Q Qv r w rs q k => k _ _ _ _ (rs.set i (show RepO _ _ _ (some v) (some d) from r)) w Step.refl (fun vs h => wipe_set (h i (by simp))) q⟩
def dgNil : TDGs := fun ds ρ S Q => match ds with
  | [] => Q ρ S
  | _ => False
def dgCons (t : TDG) (u : TDGs) : TDGs := fun ds ρ S Q => match ds with
  | d :: r => t d ρ S fun ρ' S' => u r ρ' S' Q
  | [] => False
theorem dgs_nil : DGs X [] gNil dgNil [] := ⟨pgs_nil, fun v d σ H ρ S Q Qv r w rs q k => by
  cases r with
  | nil => exact ⟨rfl, k _ _ _ _ rs w Step.refl (fun _ _ => rfl) q⟩
  | cons _ _ => exact q.elim⟩
theorem dgs_cons {e : Expr} {es : List Expr} {te : TG} {tes : TGs} {t : TDG} {u : TDGs} {is js : List Nat} (h1 : DG X e te t is) (h2 : DGs X es tes u js)
    (hs : (assignEach (e :: es) X.env).map (·.2) = assign e X.env :: (assignEach es X.env).map (·.2) := by rfl) : DGs X (e :: es) (gCons te tes) (dgCons t u) (is ++ js) :=
  ⟨pgs_cons h1.pg h2.pg hs, fun v d σ H ρ S Q Qv r w rs q k => by
    cases r with
    | nil => exact q.elim
    | cons r1 rt => exact ⟨_, _, rfl, h1.ab _ _ σ H ρ S _ _ r1 w rs q fun σ1 H1 ρ1 S1 rs1 w1 s1 e1 q1 => h2.ab _ _ σ1 H1 ρ1 S1 _ _ (rt.mono s1) w1 rs1 q1 fun σ2 H2 ρ2 S2 rs2 w2 s2 e2 q2 =>
        k _ _ _ _ rs2 w2 (s1.trans s2) (fun vs hv => (e2 vs fun i hi => hv i (List.mem_append_right _ hi)).trans (e1 vs fun i hi => hv i (List.mem_append_left _ hi))) q2⟩⟩
def dgTup (n : Nat) (t : TDGs) : TDG := fun d ρ S Q => PeekP S d fun d' => match d' with
  | .tup ds => ds.length = n ∧ t ds ρ S Q
  | _ => False
theorem dg_tup {es : List Expr} {k : Nat} {te : TGs} {t : TDGs} {n : Nat} {is : List Nat} {pos : Pos} (hc : X.calm = true) (h : DGs X es te t is) (hn : (assignEach es X.env).length = n := by rfl) (hst : (assignEach es X.env).findIdx? (·.1) = none := by rfl) :
    DG X (.Tuple es k pos) (gTup X.K n te) (dgTup n t) is := ⟨pg_tup hc h.pg hn hst, fun v d σ H ρ S Q Qv r w rs q k => by
  have rr := peek_rep w r
  have q := PeekP.go q
  generalize peek (vis S) d = d' at rr q
  cases d' with
  | tup ds =>
    obtain ⟨a, vs, rfl, h1, h2⟩ := rr.tup
    exact ⟨a, vs, rfl, h1, by rw [h2.length]; exact q.1, h.ab vs ds σ H ρ S _ _ h2 w rs q.2 k⟩
  | _ => exact q.elim⟩

/-! ### statements -/
structure DEnds where
  nx : DSt → Sto → Prop
  rt : DQ
  bk : DSt → Sto → Prop := fun _ _ => False
  ct : DSt → Sto → Prop := fun _ _ => False
abbrev TDS := DEnds → DSt → Sto → Prop
structure Conv (K : PySem.W.Frag) (H : Hp) (S : Sto) (D : DEnds) (E : Ends) : Prop where
  nx : ∀ σ' H' ρ' S', RepSt K H' S' σ' ρ' → Wd K H' S' → Step H S H' S' → D.nx ρ' (vis S') → E.nx σ' H'
  bk : ∀ σ' H' ρ' S', RepSt K H' S' σ' ρ' → Wd K H' S' → Step H S H' S' → D.bk ρ' (vis S') → E.bk σ' H'
  ct : ∀ σ' H' ρ' S', RepSt K H' S' σ' ρ' → Wd K H' S' → Step H S H' S' → D.ct ρ' (vis S') → E.ct σ' H'
  rt : ∀ v H' d S', Rep K H' S' v d → Wd K H' S' → Step H S H' S' → D.rt d (vis S') → E.rt v H'
theorem Conv.step {H H1 : Hp} {S S1 : Sto} {D : DEnds} {E : Ends} (c : Conv K H S D E) (s : Step H S H1 S1) : Conv K H1 S1 D E :=
  ⟨fun _ _ _ _ r w s' => c.nx _ _ _ _ r w (s.trans s'), fun _ _ _ _ r w s' => c.bk _ _ _ _ r w (s.trans s'), fun _ _ _ _ r w s' => c.ct _ _ _ _ r w (s.trans s'), fun _ _ _ _ r w s' => c.rt _ _ _ _ r w (s.trans s')⟩
def AbS (K : PySem.W.Frag) (te : TS) (t : TDS) : Prop := ∀ (σ : L2.St) (H : Hp) (ρ : DSt) (S : Sto) (D : DEnds) (E : Ends), Wd K H S → RepSt K H S σ ρ → t D ρ (vis S) → Conv K H S D E → te E σ H
structure DS (X : Cx) (st : Stmt) (te : TS) (t : TDS) : Prop where
  ps : PS X st te
  ab : AbS X.K te t
structure DSs (X : Cx) (st : List Stmt) (te : TS) (t : TDS) : Prop where
  ps : PSs X st te
  ab : AbS X.K te t
def dNext : TDS := fun D ρ S => D.nx ρ S
def dSeq (t u : TDS) : TDS := fun D ρ S => t { D with nx := u D } ρ S
theorem ab_next : AbS K tNext dNext := fun σ H ρ S D E w rs q c => c.nx _ _ _ _ rs w Step.refl q
theorem ab_seq {te ue : TS} {t u : TDS} (h : AbS K te t) (h' : AbS K ue u) : AbS K (tSeq te ue) (dSeq t u) := fun σ H ρ S D E w rs q c =>
  h σ H ρ S _ _ w rs q ⟨fun σ' H' ρ' S' r' w' s' q' => h' σ' H' ρ' S' D E w' r' q' (c.step s'), c.bk, c.ct, c.rt⟩
section
variable {st : Stmt} {rest : List Stmt} {te ue : TS} {t u : TDS} {e c : Expr} {tx : TE} {dx : TD} {pos : Pos}
theorem dss_nil : DSs X [] tNext dNext := ⟨pss_nil, ab_next⟩
theorem dss_cons (h1 : DS X st te t) (h2 : DSs X rest ue u) : DSs X (st :: rest) (tSeq te ue) (dSeq t u) := ⟨pss_cons h1.ps h2.ps, ab_seq h1.ab h2.ab⟩
theorem dss_one (h1 : DS X st te t) : DSs X [st] te t := ⟨pss_one h1.ps, h1.ab⟩
def dBreak : TDS := fun D ρ S => D.bk ρ S
def dCont : TDS := fun D ρ S => D.ct ρ S
theorem ds_pass : DS X (.Pass pos) tNext dNext := ⟨ps_pass, ab_next⟩
theorem ds_break : DS X (.Break pos) tBreak dBreak := ⟨ps_break, fun σ H ρ S D E w rs q c => c.bk _ _ _ _ rs w Step.refl q⟩
theorem ds_continue : DS X (.Continue pos) tCont dCont := ⟨ps_continue, fun σ H ρ S D E w rs q c => c.ct _ _ _ _ rs w Step.refl q⟩
theorem ds_doc {x j pos pos'} : DS X (.Expr (.Constant (.str x) j pos) pos') tNext dNext := ⟨ps_doc, ab_next⟩
def dDrop (t : TD) : TDS := fun D ρ S => t ρ S fun _ S1 => D.nx ρ S1
theorem ds_expr (he : DE X e tx dx) (hs : swapsWith e none pos.line X.env = pure false := by rfl) : DS X (.Expr e pos) (tDrop tx) (dDrop dx) :=
  ⟨ps_expr he.pe hs, fun σ H ρ S D E w rs q c => he.ab σ H ρ S _ _ w rs q fun v H' d S' r w' s' q' => c.nx _ _ _ _ (rs.mono s') w' s' q'⟩
def dRet (t : TD) : TDS := fun D ρ S => t ρ S D.rt
theorem ds_ret (he : DE X e tx dx) : DS X (.Return (some e) pos) (tRet tx) (dRet dx) :=
  ⟨ps_ret he.pe, fun σ H ρ S D E w rs q c => he.ab σ H ρ S _ _ w rs q fun v H' d S' r w' s' q' => c.rt _ _ _ _ r w' s' q'⟩
def dRetN : TDS := fun D ρ S => D.rt .non S
theorem ds_retN : DS X (.Return none pos) tRetN dRetN := ⟨ps_retN, fun σ H ρ S D E w rs q c => c.rt _ _ _ _ .non w Step.refl q⟩
def dIfS (c : TDT) (t u : TDS) : TDS := fun D ρ S => c ρ S fun b S1 => Br b (t D ρ S1) (u D ρ S1)
theorem ds_if {a b : List Stmt} {tc : TT} {dc : TDT} (hc : DT X c tc dc) (ha : DSs X a te t) (hb : DSs X b ue u) : DS X (.If c a b pos) (tIfS tc te ue) (dIfS dc t u) :=
  ⟨ps_if hc.pt ha.ps hb.ps, fun σ H ρ S D E w rs q cv => hc.ab σ H ρ S _ _ w rs q fun b H' S' w' s' q' => by
    cases b with
    | true => rw [if_pos rfl]; exact ha.ab _ _ _ _ D E w' (rs.mono s') (q'.t rfl) (cv.step s')
    | false => rw [if_neg (by decide)]; exact hb.ab _ _ _ _ D E w' (rs.mono s') (q'.f rfl) (cv.step s')⟩
def dNever : TDS := fun _ _ _ => False
theorem ds_never : DS X st tNever dNever := ⟨ps_never, fun σ H ρ S D E w rs q c => q⟩
theorem dss_never : DSs X rest tNever dNever := ⟨pss_never, fun σ H ρ S D E w rs q c => q⟩
def dAsg (t : TD) (g : TDG) : TDS := fun D ρ S => t ρ S fun x S1 => g x ρ S1 D.nx
theorem ds_asg {tg : Expr} {g : TG} {dg : TDG} {is : List Nat} (he : DE X e tx dx) (hg : DG X tg g dg is) (hs : swapsWithSole [tg] e pos.line X.env = pure false := by rfl) (hw : swappedStores [tg] e X.env = pure none := by rfl)
    (h1 : (assignEach [tg] X.env).map (·.2) = [assign tg X.env] := by rfl) : DS X (.Assign [tg] e pos) (tAsg tx g) (dAsg dx dg) :=
  ⟨ps_asg he.pe hg.pg hs hw h1, fun σ H ρ S D E w rs q c => he.ab σ H ρ S _ _ w rs q fun v H' d S' r w' s' q' => hg.ab _ _ σ H' ρ S' _ _ r w' (rs.mono s') q' fun σ2 H2 ρ2 S2 rs2 w2 s2 _ q2 => c.nx _ _ _ _ rs2 w2 (s'.trans s2) q2⟩
theorem ds_set {i : Nat} {x : Str} {pos' : Pos} (hN : X.N.Nodup) (he : DE X e tx dx) (hi : X.N[i]? = some x := by rfl) (hx : Loc X.env.scope x := by first | exact Or.inl rfl | exact Or.inr rfl) (hs : swapsWith e (some (.Name x pos')) pos.line X.env = pure false := by rfl) (hf : X.fn x = true ∨ X.env.scope.names.lookup x = some .local := by first | exact .inl rfl | exact .inr rfl | assumption) :
    DS X (.Assign [.Name x pos'] e pos) (tAsg tx (gName i)) (dAsg dx (dgName i)) :=
  ⟨ps_set hN hi hx he.pe hs hf, fun σ H ρ S D E w rs q c => he.ab σ H ρ S _ _ w rs q fun v H' d S' r w' s' q' => c.nx _ _ _ _ ((rs.mono s').set i (show RepO _ _ _ (some v) (some d) from r)) w' s' q'⟩
/-- a, b = x, y -/
def dPar (i j : Nat) (t : TDA) : TDS := fun D ρ S => t ρ S fun ds S1 => match ds with
  | [v, w] => D.nx ((ρ.set i (some v)).set j (some w)) S1
  | _ => False
theorem ds_par {i j : Nat} {x y : Str} {a b : Expr} {ta : TA} {da : TDA} {px py pt : Pos} {kt k2 pt2} (hc : X.calm = true) (hN : X.N.Nodup) (ha : DA X [a, b] ta da) (hi : X.N[i]? = some x := by rfl) (hj : X.N[j]? = some y := by rfl) (hij : i ≠ j := by decide)
    (hx : X.env.scope.names.lookup x = some .local := by rfl) (hy : X.env.scope.names.lookup y = some .local := by rfl)
    (hw : swappedStores [.Tuple [.Name x px, .Name y py] kt pt] (.Tuple [a, b] k2 pt2) X.env = pure (some [x, y]) := by rfl)
    (hs : swapsWithSole [.Tuple [.Name x px, .Name y py] kt pt] (.Tuple [a, b] k2 pt2) pos.line X.env = pure false := by rfl) :
    DS X (.Assign [.Tuple [.Name x px, .Name y py] kt pt] (.Tuple [a, b] k2 pt2) pos) (tPar i j ta) (dPar i j da) :=
  ⟨ps_par hc hN hi hj hij hx hy ha.pa hw hs, fun σ H ρ S D E w rs q c => ha.ab σ H ρ S _ _ w rs q fun vs H' ds S' r w' s' q' => by
    split at q'
    · cases r with
      | cons r1 r =>
        cases r with
        | cons r2 r =>
          cases r
          exact ⟨_, _, rfl, c.nx _ _ _ _ (((rs.mono s').set i (show RepO _ _ _ (some _) (some _) from r1)).set j (show RepO _ _ _ (some _) (some _) from r2)) w' s' q'⟩
    · exact q'.elim⟩
def dPar3 (i j l : Nat) (t : TDA) : TDS := fun D ρ S => t ρ S fun ds S1 => match ds with
  | [u, v, w] => D.nx (((ρ.set i (some u)).set j (some v)).set l (some w)) S1
  | _ => False
theorem ds_par3 {i j l : Nat} {x y z : Str} {a b c : Expr} {ta : TA} {da : TDA} {px py pz pt : Pos} {kt k2 pt2} (hc : X.calm = true) (hN : X.N.Nodup) (ha : DA X [a, b, c] ta da) (hi : X.N[i]? = some x := by rfl) (hj : X.N[j]? = some y := by rfl) (hl : X.N[l]? = some z := by rfl)
    (hij : i ≠ j := by decide) (hil : i ≠ l := by decide) (hjl : j ≠ l := by decide)
    (hx : X.env.scope.names.lookup x = some .local := by rfl) (hy : X.env.scope.names.lookup y = some .local := by rfl) (hz : X.env.scope.names.lookup z = some .local := by rfl)
    (hw : swappedStores [.Tuple [.Name x px, .Name y py, .Name z pz] kt pt] (.Tuple [a, b, c] k2 pt2) X.env = pure (some [x, y, z]) := by rfl)
    (hs : swapsWithSole [.Tuple [.Name x px, .Name y py, .Name z pz] kt pt] (.Tuple [a, b, c] k2 pt2) pos.line X.env = pure false := by rfl) :
    DS X (.Assign [.Tuple [.Name x px, .Name y py, .Name z pz] kt pt] (.Tuple [a, b, c] k2 pt2) pos) (tPar3 i j l ta) (dPar3 i j l da) :=
  ⟨ps_par3 hc hN hi hj hl hij hil hjl hx hy hz ha.pa hw hs, fun σ H ρ S D E w rs q c => ha.ab σ H ρ S _ _ w rs q fun vs H' ds S' r w' s' q' => by
    split at q'
    · cases r with
      | cons r1 r =>
        cases r with
        | cons r2 r =>
          cases r with
          | cons r3 r =>
            cases r
            exact ⟨_, _, _, rfl, c.nx _ _ _ _ ((((rs.mono s').set i (show RepO _ _ _ (some _) (some _) from r1)).set j (show RepO _ _ _ (some _) (some _) from r2)).set l (show RepO _ _ _ (some _) (some _) from r3)) w' s' q'⟩
    · exact q'.elim⟩
/-- x += e, x *= e by data -/
def dAug (i : Nat) (t : TD) (rd : RD2) : TDS := fun D ρ S => match slot ρ i with
  | some x => t ρ S fun y S1 => RdP rd S1 x y fun z S2 => D.nx (ρ.set i (some z)) S2
  | none => False
def AbIp (K : PySem.W.Frag) (t : TIp) (rd : RD2) : Prop := AbR2 K t rd
theorem ds_aug {i : Nat} {x : Str} {op : Operator} {ti : TIp} {rd : RD2} {pos' : Pos} (hN : X.N.Nodup) (he : DE X e tx dx) (ho : PIp X op ti) (hr : AbR2 X.K ti rd) (hi : X.N[i]? = some x := by rfl) (hx : Loc X.env.scope x := by first | exact Or.inl rfl | exact Or.inr rfl)
    (hf : X.fn x = true ∨ X.env.scope.names.lookup x = some .local := by first | exact .inl rfl | exact .inr rfl | assumption) : DS X (.AugAssign (.Name x pos') op e pos) (tAug i tx ti) (dAug i dx rd) :=
  ⟨ps_aug hN hi hx he.pe ho hf, fun σ H ρ S D E w rs q c => by
    unfold dAug at q
    cases es : slot ρ i with
    | none => rw [es] at q; exact q.elim
    | some d =>
      rw [es] at q
      obtain ⟨v, h1, r⟩ := rs.at es
      refine ⟨v, h1, he.ab σ H ρ S _ _ w rs q fun y H1 dy S1 ry w1 s1 q1 => ?_⟩
      exact hr H1 S1 v y _ _ _ _ w1 (peek_rep w1 (r.mono s1)) (peek_rep w1 ry) q1.go fun z H2 dz S2 rz w2 s2 q2 => c.nx _ _ _ _ ((rs.mono (s1.trans s2)).set i (show RepO _ _ _ (some _) (some _) from rz)) w2 (s1.trans s2) q2⟩
theorem ds_augAdd {i : Nat} {x : Str} {pos' : Pos} (hN : X.N.Nodup) (he : DE X e tx dx) (hi : X.N[i]? = some x := by rfl) (hx : Loc X.env.scope x := by first | exact Or.inl rfl | exact Or.inr rfl)
    (hf : X.fn x = true ∨ X.env.scope.names.lookup x = some .local := by first | exact .inl rfl | exact .inr rfl | assumption) : DS X (.AugAssign (.Name x pos') .Add e pos) (tAug i tx (rI0 fun i j => .int (i + j))) (dAug i dx (iOp (fun _ _ => True) fun i j => .int (i + j))) :=
  ds_aug hN he (fun pins s σ H x y v u Q I r1 r2 h => iop_add pins s σ H x y v u Q I r1 r2 h) (ab_int0 fun _ _ _ _ => .int _) hi hx hf
theorem ds_augMul {i : Nat} {x : Str} {pos' : Pos} (hN : X.N.Nodup) (he : DE X e tx dx) (hi : X.N[i]? = some x := by rfl) (hx : Loc X.env.scope x := by first | exact Or.inl rfl | exact Or.inr rfl)
    (hf : X.fn x = true ∨ X.env.scope.names.lookup x = some .local := by first | exact .inl rfl | exact .inr rfl | assumption) : DS X (.AugAssign (.Name x pos') .Mult e pos) (tAug i tx (rI CMulW fun i j => .int (i * j))) (dAug i dx (iOp CMulW fun i j => .int (i * j))) :=
  ds_aug hN he (fun pins s σ H x y v u Q I r1 r2 h => (opI (f := inplaceOp .Mult) fun _ _ _ _ _ _ _ (hc : CMulW _ _) q => imul_int q hc.ok) pins s σ H x y v u Q I r1 r2 h) (ab_int fun _ _ _ _ => .int _) hi hx hf
end
end
end DL

namespace DL
open PySem PySem.Spec PyProof.Rows L2
section
variable {X : Cx} {K : PySem.W.Frag}
/-! ### what is walked -/
def JRep (K : PySem.W.Frag) (J : It) (H0 : Hp) (S0 : Sto) (L : List D) : Prop := ∀ (H : Hp) (S : Sto), Wd K H S → Keep H0 S0 H S →
  (∀ i d, L[i]? = some d → J.go i H ∧ ∀ x H', J.yld i H x H' → Rep K H' S x d ∧ Wd K H' S ∧ Step H S H' S) ∧ J.stop L.length H
abbrev TDI := DSt → Sto → (List D → Sto → Prop) → Prop
def AbI (K : PySem.W.Frag) (wi : TI) (ti : TDI) : Prop := ∀ (σ : L2.St) (H : Hp) (ρ : DSt) (S : Sto) (Q : List D → Sto → Prop) (R : It → Hp → Prop), Wd K H S → RepSt K H S σ ρ → ti ρ (vis S) Q →
  (∀ J H' S' L, Wd K H' S' → Step H S H' S' → JRep K J H' S' L → Q L (vis S') → R J H') → wi σ H R
structure DI (X : Cx) (tg iter : Expr) (wi : TI) (ti : TDI) : Prop where
  pi : PI X tg iter wi
  ab : AbI X.K wi ti
theorem jrep_list {H0 : Hp} {S0 : Sto} {a : Addr} {vs : List V} {ds : List D} (hs : ∀ H S, Wd K H S → Keep H0 S0 H S → SqL K H a vs ∧ RepL K H S vs ds ∧ ∀ ys, SqL K H a ys → ys = vs) : JRep K (Itl K a) H0 S0 ds := fun H S w st => by
  obtain ⟨h1, h2, h3⟩ := hs H S w st
  refine ⟨fun i d hd => ?_, ⟨vs, h1, by rw [h2.length]; exact Nat.le_refl _⟩⟩
  obtain ⟨v, hv, r⟩ := h2.get hd
  refine ⟨⟨vs, v, h1, hv⟩, fun x H' y => ?_⟩
  obtain ⟨rfl, y⟩ := y
  have e := y vs h1
  rw [hv] at e; cases e
  exact ⟨r, w, Step.refl⟩
def dIt (t : TD) : TDI := fun ρ S Q => t ρ S fun d S1 => match d with
  | .lst ds => Q ds S1
  | .tup ds => Q ds S1
  | .str x => Q (x.cps.toList.map fun c => D.str ⟨#[c]⟩) S1
  | _ => False
def dItL (t : TD) : TDI := fun ρ S Q => t ρ S fun d S1 => match d with
  | .lst ds => Q ds S1
  | _ => False
def dItT (t : TD) : TDI := fun ρ S Q => t ρ S fun d S1 => match d with
  | .tup ds => Q ds S1
  | _ => False
def dItS (t : TD) : TDI := fun ρ S Q => t ρ S fun d S1 => match d with
  | .str x => Q (x.cps.toList.map fun c => D.str ⟨#[c]⟩) S1
  | _ => False
section
variable {tg e : Expr} {te : TE} {t : TD}
theorem di_list (he : DE X e te t) : DI X tg e (iList X.K te) (dItL t) := ⟨pi_list he.pe, fun σ H ρ S Q R w rs q k => he.ab σ H ρ S _ _ w rs q fun v H' d S' r w' s' q' => by
  cases d with
  | lst ds =>
    cases r with
    | lst h n rl =>
      rename_i a vs
      refine ⟨a, rfl, ⟨vs, SqL.of h⟩, k _ _ _ ds w' s' (fun H2 S2 w2 s2 => ?_) q'⟩
      obtain ⟨h2, n2⟩ := s2 _ _ h n
      have r2 := rl.monoK s2
      refine ⟨fun i d hd => ?_, ⟨vs, SqL.of h2, by rw [r2.length]; exact Nat.le_refl _⟩⟩
      obtain ⟨u, hu, ru⟩ := r2.get hd
      refine ⟨⟨vs, u, SqL.of h2, hu⟩, fun x H3 y => ?_⟩
      obtain ⟨rfl, y⟩ := y
      have e := y vs (SqL.of h2)
      rw [hu] at e; cases e
      exact ⟨ru, w2, Step.refl⟩
  | _ => exact q'.elim⟩
theorem di_tup (he : DE X e te t) : DI X tg e (iTup X.K te) (dItT t) := ⟨pi_tup he.pe, fun σ H ρ S Q R w rs q k => he.ab σ H ρ S _ _ w rs q fun v H' d S' r w' s' q' => by
  cases d with
  | tup ds =>
    have key : ∀ (a : Addr) (vs : List V), v = .ref a → (∀ H2 S2, Keep H' S' H2 S2 → SqT X.K H2 a vs) → RepL X.K H' S' vs ds → ∃ a, v = .ref a ∧ (∃ xs, SqT X.K H' a xs) ∧ R (Itt X.K a) H' := fun a vs ev h rl => by
      subst ev
      refine ⟨a, rfl, ⟨vs, h _ _ Keep.refl⟩, k _ _ _ ds w' s' (fun H2 S2 w2 s2 => ?_) q'⟩
      have h2 := h _ _ s2
      have r2 := rl.monoK s2
      refine ⟨fun i d hd => ?_, ⟨vs, h2, by rw [r2.length]; exact Nat.le_refl _⟩⟩
      obtain ⟨u, hu, ru⟩ := r2.get hd
      refine ⟨⟨vs, u, h2, hu⟩, fun x H3 y => ?_⟩
      obtain ⟨rfl, y⟩ := y
      have e := y vs h2
      rw [hu] at e; cases e
      exact ⟨ru, w2, Step.refl⟩
    cases r with
    | tup h n rl => exact key _ _ rfl (fun H2 S2 s2 => SqT.of (s2 _ _ h n).1) rl
  | _ => exact q'.elim⟩
theorem di_str (he : DE X e te t) : DI X tg e (iStr te) (dItS t) := ⟨pi_str he.pe, fun σ H ρ S Q R w rs q k => he.ab σ H ρ S _ _ w rs q fun v H' d S' r w' s' q' => by
  cases d with
  | str x =>
    cases r
    refine ⟨x, rfl, k _ _ _ _ w' s' (fun H2 S2 w2 s2 => ⟨fun i d hd => ?_, ?_⟩) q'⟩
    · rw [List.getElem?_map] at hd
      cases hc : x.cps.toList[i]? with
      | none => rw [hc] at hd; cases hd
      | some c =>
        rw [hc] at hd
        have hd' : D.str ⟨#[c]⟩ = d := Option.some.inj hd
        subst hd'
        have hi : i < x.cps.toList.length := (List.getElem?_eq_some_iff.mp hc).1
        refine ⟨show i < x.cps.size by simpa using hi, fun u H3 y => ?_⟩
        obtain ⟨rfl, c', hc', rfl⟩ := y
        rw [← Array.getElem?_toList, hc] at hc'
        cases hc'
        exact ⟨.str _, w2, Step.refl⟩
    · show x.cps.size ≤ _
      rw [List.length_map, Array.length_toList]; exact Nat.le_refl _
  | _ => exact q'.elim⟩
def rngL (lo hi : Int) : List D := (List.range (hi - lo).toNat).map fun i => D.int (lo + (i : Nat))
def dRng1 (t : TD) : TDI := fun ρ S Q => t ρ S fun d S1 => match d with
  | .int n => (-(2 ^ 62) ≤ n ∧ n < 2 ^ 62) ∧ Q (rngL 0 n) S1
  | _ => False
def dRng2 (t u : TD) : TDI := fun ρ S Q => t ρ S fun d S1 => u ρ S1 fun d' S2 => match d, d' with
  | .int n, .int m => (-(2 ^ 62) ≤ n ∧ n < 2 ^ 62 ∧ -(2 ^ 62) ≤ m ∧ m < 2 ^ 62) ∧ Q (rngL n m) S2
  | _, _ => False
theorem jrep_rng {H0 : Hp} {S0 : Sto} {lo hi : Int} : JRep K (Itr lo (hi - lo).toNat) H0 S0 (rngL lo hi) := fun H S w s => ⟨fun i d hd => by
  unfold rngL at hd
  rw [List.getElem?_map] at hd
  cases hc : (List.range (hi - lo).toNat)[i]? with
  | none => rw [hc] at hd; cases hd
  | some c =>
    rw [hc] at hd
    obtain ⟨h1, h2⟩ := List.getElem?_eq_some_iff.mp hc
    rw [List.getElem_range] at h2
    subst h2
    rw [List.length_range] at h1
    refine ⟨h1, fun x H3 y => ?_⟩
    obtain ⟨rfl, rfl⟩ := y
    cases hd
    exact ⟨.int _, w, Step.refl⟩, by
  show (hi - lo).toNat ≤ _
  unfold rngL
  rw [List.length_map, List.length_range]; exact Nat.le_refl _⟩
theorem di_rng1 {p pos : Pos} (hg : Gl X "range") (hm : X.mg "range" = none) (he : DE X e te t) (ha : starEach [e] X.env = (false, eval e X.env) :: starEach [] X.env := by rfl) (hs : starEach [e] X.env = [(false, eval e X.env)] := by rfl) :
    DI X tg (.Call (.Name "range" p) [e] [] pos) (iRng1 (tCons te tNil)) (dRng1 t) := ⟨pi_range1 hg hm (pa_cons he.pe pa_nil ha) hs, fun σ H ρ S Q R w rs q k => he.ab σ H ρ S _ _ w rs q fun v H' d S' r w' s' q' => by
  cases d with
  | int n =>
    cases r
    refine ⟨n, rfl, q'.1.1, q'.1.2, k _ _ _ _ w' s' ?_ q'.2⟩
    have e : n.toNat = (n - 0).toNat := by rw [Int.sub_zero]
    rw [e]
    exact jrep_rng
  | _ => exact q'.elim⟩
theorem di_rng2 {e2 : Expr} {te2 : TE} {t2 : TD} {p pos : Pos} (hg : Gl X "range") (hm : X.mg "range" = none) (he : DE X e te t) (he2 : DE X e2 te2 t2)
    (h1 : starEach [e, e2] X.env = (false, eval e X.env) :: starEach [e2] X.env := by rfl) (h2 : starEach [e2] X.env = (false, eval e2 X.env) :: starEach [] X.env := by rfl)
    (hs : starEach [e, e2] X.env = [(false, eval e X.env), (false, eval e2 X.env)] := by rfl) (hs2 : starEach [e2] X.env = [(false, eval e2 X.env)] := by rfl) :
    DI X tg (.Call (.Name "range" p) [e, e2] [] pos) (iRng2 (tCons te (tCons te2 tNil))) (dRng2 t t2) := ⟨pi_range2 hg hm (pa_cons he.pe (pa_cons he2.pe pa_nil h2) h1) hs hs2, fun σ H ρ S Q R w rs q k => he.ab σ H ρ S _ _ w rs q fun v H' d S' r w' s' q' =>
  he2.ab σ H' ρ S' _ _ w' (rs.mono s') q' fun v2 H2 d2 S2 r2 w2 s2 q2 => by
    cases d with
    | int n =>
      cases d2 with
      | int m =>
        cases r; cases r2
        exact ⟨n, m, rfl, q2.1, k _ _ _ _ w2 (s'.trans s2) jrep_rng q2.2⟩
      | _ => exact q2.elim
    | _ => exact q2.elim⟩
end
/-! ### for -/
/-- W: the invariant, by the turn -/
structure dFor (ti : TDI) (g : TDG) (tb : TDS) (D : DEnds) (ρ : DSt) (S : Sto) : Prop where
  go : ti ρ S fun L S1 => ∃ W : Nat → DSt → Sto → Prop, W 0 ρ S1 ∧
  (∀ i d ρ' S', L[i]? = some d → W i ρ' S' → g d ρ' S' fun ρ2 S2 => tb { D with nx := W (i + 1), ct := W (i + 1), bk := D.nx } ρ2 S2) ∧ (∀ ρ' S', W L.length ρ' S' → D.nx ρ' S')
theorem ds_for {tg iter : Expr} {body : List Stmt} {wi : TI} {ti : TDI} {g : TG} {dg : TDG} {is : List Nat} {tb : TS} {db : TDS} {pos : Pos} (hp : PassesOwn (model X.prog X.w) X.A X.env X.xe) (hc : X.calm = true) (hi : DI X tg iter wi ti) (hg : DG X tg g dg is) (hb : DSs X body tb db)
    (hs : ∀ x, foldedSetIterable iter X.env x = pure x := by intro _; rfl) : DS X (.For tg iter body [] pos) (tFor wi g tb) (dFor ti dg db) :=
  ⟨ps_for hp hc hi.pi hg.pg hb.ps hs, fun σ H ρ S D E w rs q c => hi.ab σ H ρ S _ _ w rs q.go fun J H1 S1 L w1 s1 jr q1 => by
    obtain ⟨W, w0, hstep, hend⟩ := q1
    refine ⟨fun i m σ' H' => i ≤ L.length ∧ m = L.length - i ∧ ∃ ρ' S', RepSt X.K H' S' σ' ρ' ∧ Wd X.K H' S' ∧ Step H1 S1 H' S' ∧ W i ρ' (vis S'), ⟨_, Nat.zero_le _, rfl, ρ, S1, rs.mono s1, w1, Step.refl, w0⟩, ?_⟩
    rintro i m σ' H' ⟨hil, rfl, ρ', S', rs', w', s', hw⟩
    obtain ⟨hgo, hstop⟩ := jr H' S' w' s'.keep
    by_cases hlt : i < L.length
    · have hd : L[i]? = some L[i] := List.getElem?_eq_getElem hlt
      obtain ⟨go, hy⟩ := hgo i _ hd
      refine .inr ⟨go, fun σ2 H2 => ∃ ρ2 S2, RepSt X.K H2 S2 σ2 ρ2 ∧ Wd X.K H2 S2 ∧ Step H1 S1 H2 S2 ∧ W (i + 1) ρ2 (vis S2), fun σ2 H2 hN => ⟨L.length - (i + 1), by omega, hlt, rfl, hN⟩, fun x H2 y => ?_⟩
      obtain ⟨r2, w2, s2⟩ := hy x H2 y
      refine hg.ab x _ σ' H2 ρ' S' _ _ r2 w2 (rs'.mono s2) (hstep i _ ρ' (vis S') hd hw) fun σ3 H3 ρ3 S3 rs3 w3 s3 _ q3 => ?_
      have st : Step H1 S1 H3 S3 := (s'.trans s2).trans s3
      refine hb.ab σ3 H3 ρ3 S3 _ _ w3 rs3 q3 ⟨fun σ4 H4 ρ4 S4 rs4 w4 s4 q4 => ⟨ρ4, S4, rs4, w4, st.trans s4, q4⟩, fun σ4 H4 ρ4 S4 rs4 w4 s4 q4 => c.nx _ _ _ _ rs4 w4 (s1.trans (st.trans s4)) q4,
        fun σ4 H4 ρ4 S4 rs4 w4 s4 q4 => ⟨ρ4, S4, rs4, w4, st.trans s4, q4⟩, fun v H4 d S4 r4 w4 s4 q4 => c.rt _ _ _ _ r4 w4 (s1.trans (st.trans s4)) q4⟩
    · have e : i = L.length := by omega
      subst e
      exact .inl ⟨hstop, c.nx _ _ _ _ rs' w' (s1.trans s') (hend ρ' (vis S') hw)⟩⟩
/-! ### while -/
structure dWhile (tc : TDT) (tb : TDS) (D : DEnds) (ρ : DSt) (S : Sto) : Prop where
  go : ∃ W : Nat → DSt → Sto → Prop, (∃ m, W m ρ S) ∧ ∀ m ρ' S', W m ρ' S' → tc ρ' S' fun b S1 =>
  Br b (tb { D with nx := fun ρ2 S2 => ∃ m', m' < m ∧ W m' ρ2 S2, ct := fun ρ2 S2 => ∃ m', m' < m ∧ W m' ρ2 S2, bk := D.nx } ρ' S1) (D.nx ρ' S1)
theorem ds_while {c : Expr} {body : List Stmt} {tc : TT} {dc : TDT} {tb : TS} {db : TDS} {pos : Pos} (hp : PassesOwn (model X.prog X.w) X.A X.env X.xe) (hc : DT X c tc dc) (hb : DSs X body tb db) : DS X (.While c body [] pos) (tWhile tc tb) (dWhile dc db) :=
  ⟨ps_while hp hc.pt hb.ps, fun σ H ρ S D E w rs q cv => by
    obtain ⟨W, ⟨m0, w0⟩, hs⟩ := q.go
    refine ⟨fun m σ' H' => ∃ ρ' S', RepSt X.K H' S' σ' ρ' ∧ Wd X.K H' S' ∧ Step H S H' S' ∧ W m ρ' (vis S'), ⟨m0, ρ, S, rs, w, Step.refl, w0⟩, ?_⟩
    rintro m σ' H' ⟨ρ', S', rs', w', s', hw⟩
    refine hc.ab σ' H' ρ' S' _ _ w' rs' (hs m ρ' (vis S') hw) fun b H1 S1 w1 s1 q1 => ?_
    have st := s'.trans s1
    cases b with
    | true =>
      rw [if_pos rfl]
      refine ⟨fun σ2 H2 => ∃ ρ2 S2, RepSt X.K H2 S2 σ2 ρ2 ∧ Wd X.K H2 S2 ∧ Step H S H2 S2 ∧ ∃ m', m' < m ∧ W m' ρ2 (vis S2), fun σ2 H2 ⟨ρ2, S2, a1, a2, a3, m', lt, a4⟩ => ⟨m', lt, ρ2, S2, a1, a2, a3, a4⟩, ?_⟩
      exact hb.ab σ' H1 ρ' S1 _ _ w1 (rs'.mono s1) (q1.t rfl) ⟨fun σ4 H4 ρ4 S4 rs4 w4 s4 q4 => ⟨ρ4, S4, rs4, w4, st.trans s4, q4⟩, fun σ4 H4 ρ4 S4 rs4 w4 s4 q4 => cv.nx _ _ _ _ rs4 w4 (st.trans s4) q4,
        fun σ4 H4 ρ4 S4 rs4 w4 s4 q4 => ⟨ρ4, S4, rs4, w4, st.trans s4, q4⟩, fun v H4 d S4 r4 w4 s4 q4 => cv.rt _ _ _ _ r4 w4 (st.trans s4) q4⟩
    | false =>
      rw [if_neg (by decide)]
      exact cv.nx _ _ _ _ (rs'.mono s1) w1 st (q1.f rfl)⟩
/-! ### list comprehensions -/
structure DTs (X : Cx) (ifs : List Expr) (te : TT) (t : TDT) : Prop where
  pt : PTs X ifs te
  ab : AbT X.K te t
def dYes : TDT := fun _ S Q => Q true S
theorem dts_nil : DTs X [] tYes dYes := ⟨pts_nil, fun σ H ρ S Q Qv w rs q k => k _ _ _ w Step.refl q⟩
theorem dts_one {c : Expr} {tt : TT} {t : TDT} (h : DT X c tt t) : DTs X [c] tt t := ⟨pts_one h.pt, h.ab⟩
/-- W: the invariant, by the turn and the list so far -/
structure dLc (ti : TDI) (g : TDG) (tt : TDT) (te : TD) (vs : List Nat) (ρ : DSt) (S : Sto) (Q : DQ) : Prop where
  go : ti ρ S fun L S1 => SzOk L.length ∧ ∃ W : Nat → List D → Sto → Prop, W 0 [] S1 ∧
  (∀ i d acc S', L[i]? = some d → W i acc S' → g d (dwipe ρ vs) S' fun ρ2 S2 => tt ρ2 S2 fun b S3 => Br b (te ρ2 S3 fun y S4 => W (i + 1) (acc ++ [y]) S4) (W (i + 1) acc S3)) ∧
  (∀ acc S', W L.length acc S' → Q (.lst acc) S')
theorem ab_lc {wi : TI} {ti : TDI} {g : TG} {dg : TDG} {is : List Nat} {tt : TT} {dt : TDT} {te : TE} {de : TD} {vs : List Nat} (hi : AbI K wi ti) (hg : AbG K g dg is) (ht : AbT K tt dt) (he : Ab K te de) (hv : ∀ i ∈ is, i ∈ vs) : Ab K (tLc wi g tt te vs) (dLc ti dg dt de vs) :=
  fun σ H ρ S Q Qv w rs q k => hi σ H ρ S _ _ w rs q.go fun J H1 S1 L w1 s1 jr q1 => by
    obtain ⟨⟨hz⟩, W, w0, hstep, hend⟩ := q1
    intro C hC
    have w2 : Wd K (upd H1 C (.lst [])) (updS S1 C .hid) := w1.newS hC (.inl ⟨_, upd_same⟩)
    have s2 : Step H1 S1 (upd H1 C (.lst [])) (updS S1 C .hid) := Step.newS w1 hC
    have v2 : vis (updS S1 C .hid) = vis S1 := vis_hid (w1.free hC)
    refine ⟨fun i m H' => i ≤ L.length ∧ m = L.length - i ∧ ∃ acc us S', H' C = some (.lst us) ∧ RepL K H' S' us acc ∧ S' C = some .hid ∧ acc.length ≤ i ∧ Wd K H' S' ∧ Step H1 S1 H' S' ∧ W i acc (vis S'),
      ⟨_, Nat.zero_le _, rfl, [], [], _, upd_same, .nil, updS_same, Nat.le_refl _, w2, s2, by rw [v2]; exact w0⟩, ?_⟩
    rintro i m H' ⟨hil, rfl, acc, us, S', hD, rl, hn, hal, w', s', hw⟩
    obtain ⟨hgo, hstop⟩ := jr H' S' w' s'.keep
    by_cases hlt : i < L.length
    · have hd : L[i]? = some L[i] := List.getElem?_eq_getElem hlt
      obtain ⟨go, hy⟩ := hgo i _ hd
      refine .inr ⟨go, fun H2 => ∃ acc us S', H2 C = some (.lst us) ∧ RepL K H2 S' us acc ∧ S' C = some .hid ∧ acc.length ≤ i + 1 ∧ Wd K H2 S' ∧ Step H1 S1 H2 S' ∧ W (i + 1) acc (vis S'), fun H2 hN => ⟨L.length - (i + 1), by omega, hlt, rfl, hN⟩, fun x H2 y => ?_⟩
      obtain ⟨r2, w2, s2⟩ := hy x H2 y
      have rs0 : RepSt K H2 S' σ ρ := rs.mono ((s1.trans s').trans s2)
      refine hg x _ (L2.wipe σ vs) H2 (dwipe ρ vs) S' _ _ r2 w2 (rs0.wipe vs) (hstep i _ acc (vis S') hd hw) fun σ3 H3 ρ3 S3 rs3 w3 s3 hwp q3 => ⟨?_, ?_⟩
      · rw [hwp vs hv]
        have idem : ∀ (us : List Nat) (τ : L2.St), (∀ j ∈ us, j ∈ vs) → L2.wipe (L2.wipe τ vs) us = L2.wipe τ vs := fun us => by
          have nn : ∀ (vs : List Nat) (τ : L2.St) (j : Nat), j ∈ vs → (L2.wipe τ vs).set j none = L2.wipe τ vs := fun vs => by
            induction vs with
            | nil => intro τ j h; cases h
            | cons v vs ih =>
              intro τ j h
              show ((L2.wipe τ vs).set v none).set j none = (L2.wipe τ vs).set v none
              by_cases e : v = j
              · subst e; rw [List.set_set]
              · rw [List.set_comm _ _ e, ih τ j (by rcases List.mem_cons.mp h with q | q; exact absurd q.symm e; exact q)]
          induction us with
          | nil => intro τ _; rfl
          | cons u us ih =>
            intro τ h
            show (L2.wipe (L2.wipe τ vs) us).set u none = _
            rw [ih τ fun j hj => h j (List.mem_cons_of_mem _ hj), nn vs τ u (h u List.mem_cons_self)]
        exact idem vs σ fun _ h => h
      · have h23 := (s2.trans s3)
        refine ht σ3 H3 ρ3 S3 _ _ w3 rs3 q3 fun b H4 S4 w4 s4 q4 => ?_
        have h24 := h23.trans s4
        obtain ⟨hD4, hn4⟩ := h24.hid _ hn
        cases b with
        | true =>
          rw [if_pos rfl]
          refine he σ3 H4 ρ3 S4 _ _ w4 (rs3.mono s4) (q4.t rfl) fun v H5 d S5 r5 w5 s5 q5 => ?_
          have h25 := h24.trans s5
          obtain ⟨hD5, hn5⟩ := h25.hid _ hn
          rw [hD] at hD5
          have kc : Keep H5 S5 (upd H5 C (.lst (us ++ [v]))) S5 := Keep.grow hn5
          have st : Step H1 S1 H5 S5 := s'.trans h25
          have hC1 : ∀ a, S1 a = some .hid → a ≠ C := fun a e z => by rw [z, w1.free hC] at e; cases e
          refine ⟨us, hD5, ?_, acc ++ [d], us ++ [v], S5, upd_same, ((rl.mono h25).append (.cons r5 .nil)).monoK kc, hn5, ?_, w5.grow hn5, ⟨st.keep.trans kc, fun a e => ?_⟩, q5⟩
          · rw [rl.length]; omega
          · rw [List.length_append]; exact Nat.succ_le_succ hal
          · obtain ⟨e1, e2⟩ := st.hid a e
            exact ⟨(upd_ne (hC1 a e)).trans e1, e2⟩
        | false =>
          rw [if_neg (by decide)]
          exact ⟨acc, us, S4, hD4.trans hD, rl.mono h24, hn4, Nat.le_succ_of_le hal, w4, s'.trans h24, q4.f rfl⟩
    · have e : i = L.length := by omega
      subst e
      have hC1 : ∀ a, S1 a = some .hid → a ≠ C := fun a e z => by rw [z, w1.free hC] at e; cases e
      refine .inl ⟨hstop, k _ _ (.lst acc) (eraS S' C) (.lst hD (by unfold eraS; rw [if_pos rfl]) (rl.monoK Keep.era)) w'.era (s1.trans ⟨s'.keep.trans Keep.era, fun a e => ⟨(s'.hid a e).1, ?_⟩⟩) ?_⟩
      · unfold eraS
        rw [if_neg (hC1 a e)]
        exact (s'.hid a e).2
      · rw [vis_era hn]
        exact hend acc _ hw
theorem de_lc {elt tg iter : Expr} {ifs : List Expr} {scope : Scope} {own : List (Str × Nat)} {pos : Pos} {wi : TI} {ti : TDI} {g : TG} {dg : TDG} {is : List Nat} {tt : TT} {dt : TDT} {te : TE} {de : TD} (hc : X.calm = true) (hN : X.N.Nodup) (hi : DI X tg iter wi ti) (ok : BlkOk X.N X.env.scope scope own)
    (hg : ∀ (s : Shared) (H : Hp) (C : Addr) (cl : List (Str × Addr)) (fp : List Addr), DG (X.blk s H scope (compEnvC scope cl C X.env) fp) tg g dg is) (ht : ∀ (s : Shared) (H : Hp) (C : Addr) (cl : List (Str × Addr)) (fp : List Addr), DTs (X.blk s H scope (compEnvC scope cl C X.env) fp) ifs tt dt)
    (he : ∀ (s : Shared) (H : Hp) (C : Addr) (cl : List (Str × Addr)) (fp : List Addr), DE (X.blk s H scope (compEnvC scope cl C X.env) fp) elt te de) (hv : ∀ i ∈ is, i ∈ own.map (·.2) := by decide) (hs : ∀ x, foldedSetIterable iter X.env x = pure x := by intro _; rfl) :
    DE X (.ListComp elt [⟨tg, iter, ifs, 0⟩] scope pos) (tLc wi g tt te (own.map (·.2))) (dLc ti dg dt de (own.map (·.2))) :=
  ⟨pe_lc hc hN hi.pi ok (fun s H C cl fp => (hg s H C cl fp).pg) (fun s H C cl fp => (ht s H C cl fp).pt) (fun s H C cl fp => (he s H C cl fp).pe) hs,
    ab_lc hi.ab (hg ({} : Shared) (fun _ => none) 0 [] []).ab (ht ({} : Shared) (fun _ => none) 0 [] []).ab (he ({} : Shared) (fun _ => none) 0 [] []).ab hv⟩
theorem ds_setLc {i : Nat} {y : Str} {py : Pos} {elt tg iter : Expr} {ifs : List Expr} {scope : Scope} {own : List (Str × Nat)} {pos spos : Pos} {wi : TI} {ti : TDI} {g : TG} {dg : TDG} {is : List Nat} {tt : TT} {dt : TDT} {te : TE} {de : TD} (hc : X.calm = true) (hN : X.N.Nodup)
    (hsw : swapsWith (.ListComp elt [⟨tg, iter, ifs, 0⟩] scope pos) (some (.Name y py)) spos.line X.env = pure true) (hi : DI X tg iter wi ti) (ok : BlkOk X.N X.env.scope scope own)
    (hg : ∀ (s : Shared) (H : Hp) (C : Addr) (cl : List (Str × Addr)) (fp : List Addr), DG (X.blk s H scope (compEnvC scope cl C X.env) fp) tg g dg is) (ht : ∀ (s : Shared) (H : Hp) (C : Addr) (cl : List (Str × Addr)) (fp : List Addr), DTs (X.blk s H scope (compEnvC scope cl C X.env) fp) ifs tt dt)
    (he : ∀ (s : Shared) (H : Hp) (C : Addr) (cl : List (Str × Addr)) (fp : List Addr), DE (X.blk s H scope (compEnvC scope cl C X.env) fp) elt te de) (hy : X.N[i]? = some y := by rfl) (hyl : X.env.scope.names.lookup y = some .local := by rfl) (hv : ∀ i ∈ is, i ∈ own.map (·.2) := by decide) (hs : ∀ x, foldedSetIterable iter X.env x = pure x := by intro _; rfl) :
    DS X (.Assign [.Name y py] (.ListComp elt [⟨tg, iter, ifs, 0⟩] scope pos) spos) (tAsg (tLc wi g tt te (own.map (·.2))) (gName i)) (dAsg (dLc ti dg dt de (own.map (·.2))) (dgName i)) :=
  ⟨ps_setLc hc hN hy hyl hsw hi.pi ok (fun s H C cl fp => (hg s H C cl fp).pg) (fun s H C cl fp => (ht s H C cl fp).pt) (fun s H C cl fp => (he s H C cl fp).pe) hs, fun σ H ρ S D E w rs q c =>
    ab_lc hi.ab (hg ({} : Shared) (fun _ => none) 0 [] []).ab (ht ({} : Shared) (fun _ => none) 0 [] []).ab (he ({} : Shared) (fun _ => none) 0 [] []).ab hv σ H ρ S _ _ w rs q fun v H' d S' r w' s' q' => c.nx _ _ _ _ ((rs.mono s').set i (show RepO _ _ _ (some v) (some d) from r)) w' s' q'⟩
end
end DL

namespace DL
open PySem PySem.Spec PyProof.Rows L2
/-! ### a def's promise by its body -/
def dstart : List Str → List D → DSt
  | [], _ => []
  | _ :: N, [] => none :: dstart N []
  | _ :: N, d :: ds => some d :: dstart N ds
/-- what is left behind may be forgotten; an owned list may be handed out -/
structure Leave (Q : DQ) (d : D) (S1 : Sto) : Prop where
  ex : ∃ S', Sub S' S1 ∧ (Q d S' ∨ ∃ p ds, d = .ref p ∧ S1 p = some (.lst ds) ∧ S' p = none ∧ Q (.lst ds) S')
theorem Leave.now {Q : DQ} {d : D} {S : Sto} (h : Q d S) : Leave Q d S := ⟨S, Sub.refl, .inl h⟩
theorem rep_start {K : PySem.W.Frag} {H : Hp} {S : Sto} : ∀ {N : List Str} {vs : List V} {ds : List D}, RepL K H S vs ds → vs.length ≤ N.length → RepSt K H S (L2.start N vs) (dstart N ds)
  | [], vs, ds, r, h => by
    have e : vs = [] := List.length_eq_zero_iff.mp (Nat.le_zero.mp h)
    subst e
    exact .nil
  | n :: N, [], ds, r, h => by
    cases r
    have q := rep_start (N := N) (K := K) (H := H) (S := S) .nil (Nat.zero_le _)
    have e : L2.start (n :: N) [] = none :: L2.start N [] := rfl
    rw [e]
    exact .cons (show RepO _ _ _ none none from trivial) q
  | n :: N, v :: vs, _, .cons r t, h => by
    have h' : vs.length ≤ N.length := Nat.le_of_succ_le_succ h
    have q := rep_start (N := N) t h'
    have e : L2.start (n :: N) (v :: vs) = some v :: L2.start N vs := by
      unfold L2.start
      rw [List.map_cons, List.length_cons, List.length_cons, Nat.add_sub_add_right]
      rfl
    rw [e]
    exact .cons (show RepO _ _ _ (some _) (some _) from r) q
theorem conv_leave {K : PySem.W.Frag} {H : Hp} {S : Sto} {Qd : DQ} {Q : VK} (k : ∀ v H' r S', Rep K H' S' v r → Wd K H' S' → Step H S H' S' → Qd r (vis S') → Q v H') {v : V} {H' : Hp} {d : D} {S' : Sto} (r : Rep K H' S' v d) (w : Wd K H' S') (st : Step H S H' S') (q : Leave Qd d (vis S')) : Q v H' := by
  obtain ⟨S2, sb, q⟩ := q.ex
  have ev := under_vis sb
  have us : Step H' S' H' (under S2 S') := under_step sb
  have w2 : Wd K H' (under S2 S') := w.under sb
  rcases q with q | ⟨p, ds, rfl, e, n, q⟩
  · exact k v H' d _ (r.mono us) w2 (st.trans us) (by rw [ev]; exact q)
  · cases r
    obtain ⟨vs, hh, rl⟩ := w p _ (vis_of e).1
    refine k _ H' (.lst ds) _ (.lst hh ?_ (rl.mono us)) w2 (st.trans us) (by rw [ev]; exact q)
    unfold under
    rw [(vis_of e).1]
    exact n
section
variable {P : Program} {w : World} {K : PySem.W.Frag} {mg : Str → Option Value} {base : Heap}
theorem okD {x qual : Str} {st : Stmt} {f : Addr} {fd : FuncData} {N ps : List Str} {k : Nat} {sp : DSp} (F : Fun K x qual st f fd) (Sc : FnScope N ps (defScope st)) (len : ∀ ds S Q, sp ds S Q → ds.length = ps.length)
    (hbody : ∀ (cdv : Value) (A : Around) (outer : List Env) (s : Shared) (H : Hp) (E : XK), Room k (A.deeper (envOfC qual (defScope st) s.heap.objs.size f cdv)) →
      ∃ ts td, DSs (cxOf CX0 P w K mg base N qual (defScope st) f cdv A outer s H E).nox (defBody st) ts td ∧ ∀ ds S Q, sp ds S Q → td { nx := fun _ S' => Leave Q .non S', rt := Leave Q } (dstart N ds) S) : FnOk P w K mg base CX0 (k + 1) f fd ps (toSp K sp) := by
  refine F.ok Sc (fun vs H Q E h => ?_) (fun cdv A outer s H vs Q E hr h => ?_)
  · obtain ⟨ds, S, Qd, r, _, h, _⟩ := h
    rw [r.length]; exact len _ _ _ h
  · obtain ⟨ds, S, Qd, r, wd, h, kq⟩ := h
    obtain ⟨ts, td, hd, hq⟩ := hbody cdv A outer s H E hr
    refine ⟨ts, hd.ps, hd.ab _ _ _ _ _ _ wd (rep_start r (by rw [r.length, len _ _ _ h, ← Sc.pre, List.length_take]; exact Nat.min_le_right _ _)) (hq ds (vis S) Qd h) ⟨fun σ' H' ρ' S' _ w' s' q => ?_, fun _ _ _ _ _ _ _ q => q.elim, fun _ _ _ _ _ _ _ q => q.elim, fun v H' d S' r' w' s' q => conv_leave kq r' w' s' q⟩⟩
    exact conv_leave kq .non w' s' q
end
/-- the law's own promise -/
def spLawD : DSp := fun ds S Q => ∃ ns : List Int, ds = [.fz (ns.map D.int)] ∧ S = S0 ∧ ns.length ≤ 63 ∧ ∀ S', Q (.bl true) S'
def spLaw (K : PySem.W.Frag) : Sp := fun vs H Q _ => ∃ (a : Addr) (ns : List Int), vs = [.ref a] ∧ SqL K H a (ns.map V.int) ∧ ns.length ≤ 63 ∧ ∀ H', Q (.bl true) H'
theorem law_imp {P : Program} {w : World} {K : PySem.W.Frag} {mg : Str → Option Value} {base : Heap} {k : Nat} {f : Addr} {fd : FuncData} {ps : List Str} (F : FnOk P w K mg base CX0 k f fd ps (toSp K spLawD)) : FnOk P w K mg base CX0 k f fd ps (spLaw K) :=
  F.imp fun vs H Q E h => by
    obtain ⟨a, ns, rfl, hs, hl, q⟩ := h
    refine ⟨[.fz (ns.map D.int)], S0, fun d _ => d = .bl true, .cons (.fz (vs := ns.map V.int) (fun H' S' kp => ?_) RepL.ints) .nil, Wd.S0, ⟨ns, rfl, rfl, hl, fun _ => rfl⟩, fun v H' r S' rr _ _ e => ?_⟩
    · rcases hs with (hs | ⟨o, hs⟩) | hs
      · exact .inl (.inl (kp _ _ hs rfl).1)
      · exact .inl (.inr ⟨o, (kp _ _ hs rfl).1⟩)
      · exact .inr hs
    · subst e
      cases rr
      exact q H'

section
variable {X : Cx} {K : PySem.W.Frag}
/-! ### x in a tuple of the module's top -/
theorem de_inK {x : Str} {a : Expr} {ta : TE} {da : TD} {pos ps : Pos} {c : Addr} {vs : List V} {ds : List D} (hg : Gl X x) (hm : X.mg x = some (.ref c)) (hs : ∀ H, SqT X.K H c vs) (hr : ∀ H S, RepL X.K H S vs ds) (hf : ds.all flatD = true) (ha : DE X a ta da)
    (hmk : behindInMarks .In (.Name x ps) = false := by rfl) (hdb : (x == ("__debug__" : Str)) = false := by decide) :
    DE X (.Compare a [.In] [.Name x ps] pos) (tOp (rIn X.K false) ta (tC (.ref c))) (fun ρ S Q => da ρ S fun d S1 => flatD d = true ∧ Q (.bl (inF d ds)) S1) :=
  ⟨pe_cmpR op_in_seq ha.pe (pe_glob hg hm rfl hdb) hmk, fun σ H ρ S Q Qv w rs q k => ha.ab σ H ρ S _ _ w rs q fun v H1 d S1 r w1 s1 q1 => by
    refine ⟨c, vs, rfl, .inr (hs H1), flat_rep r q1.1, flat_repL (hr H1 S1) hf, ?_⟩
    rw [if_neg (by decide), inF_rep r q1.1 (hr H1 S1) hf]
    exact k _ _ _ _ (.bl _) w1 s1 q1.2⟩

/-! ### owned lists -/
theorem owned_lst {H : Hp} {S : Sto} {p : Addr} {ds : List D} (w : Wd K H S) (h : vis S p = some (.lst ds)) : ∃ vs, H p = some (.lst vs) ∧ RepL K H S vs ds := w p _ (vis_of h).1
section
variable {o e i : Expr} {to te ti : TE} {d1 d2 d3 : TD} {apos pos tpos : Pos}
/-- o.append(e) -/
structure IsLst (m : Option MO) (Q : List D → Prop) : Prop where
  get : ∃ ds, m = some (.lst ds) ∧ Q ds
theorem IsLst.of {m : Option MO} {ds : List D} {Q : List D → Prop} (h : m = some (.lst ds)) (q : Q ds) : IsLst m Q := ⟨ds, h, q⟩
def dApp (t u : TD) : TD := fun ρ S Q => t ρ S fun o S1 => match o with
  | .ref p => IsLst (S1 p) fun _ => u ρ S1 fun d S2 => IsLst (S2 p) fun ds => SzOk (ds.length + 1) ∧ Q .non (updS S2 p (.lst (ds ++ [d])))
  | _ => False
theorem de_app (ho : DE X o to d1) (he : DE X e te d2) (ha : starEach (e :: []) X.env = (false, eval e X.env) :: starEach [] X.env := by rfl)
    (h : PE X (.Call (.Attribute o "append" apos) [e] [] pos) (tBM X.K "list" rAppend to (tCons te tNil)) := by exact pe_bm PySem.F.plainAttrs_list PySem.F.slot_list_append PySem.F.type_list_append mt_append ho.pe (pa_cons he.pe pa_nil (by rfl))) :
    DE X (.Call (.Attribute o "append" apos) [e] [] pos) (tBM X.K "list" rAppend to (tCons te tNil)) (dApp d1 d2) :=
  ⟨h, fun σ H ρ S Q Qv w rs q k => ho.ab σ H ρ S _ _ w rs q fun v H1 x S1 r w1 s1 q1 => by
    split at q1
    case h_2 => exact q1.elim
    rename_i p
    obtain ⟨ds1, hp, q1⟩ := q1.get
    cases r
    obtain ⟨vs1, h1, _⟩ := owned_lst w1 hp
    refine ⟨.inl ⟨rfl, _, SqL.of h1⟩, he.ab σ H1 ρ S1 _ _ w1 (rs.mono s1) q1 fun y H2 d S2 r2 w2 s2 q2 => ?_⟩
    obtain ⟨ds, hp2, hl, q2⟩ := q2.get
    obtain ⟨vs, h2, rl⟩ := owned_lst w2 hp2
    have ow := (vis_of hp2)
    refine ⟨p, vs, y, rfl, rfl, h2, by rw [rl.length]; exact hl.le, ?_⟩
    have st : Step H2 S2 (upd H2 p (.lst (vs ++ [y]))) (updS S2 p (.lst (ds ++ [d]))) := Step.chg ow.1 ow.2
    refine k _ _ .non _ .non (w2.chg (m := .lst (ds ++ [d])) ow.1 ow.2 ⟨_, upd_same, (rl.append (.cons r2 .nil)).mono st⟩) ((s1.trans s2).trans st) ?_
    rw [vis_upd (by intro z; cases z)]
    exact q2⟩
/-- o[i] = e, o an owned list -/
def dSetL (u t v : TD) : TDS := fun D ρ S => u ρ S fun d S1 => t ρ S1 fun o S2 => v ρ S2 fun i S3 => match o, i with
  | .ref p, .int n => IsLst (S3 p) fun ds => TheItem (ixN ds.length n) fun j => D.nx ρ (updS S3 p (.lst (ds.set j d)))
  | _, _ => False
theorem ds_setL (he : DE X e te d1) (ho : DE X o to d2) (hi : DE X i ti d3) (ha : ∀ v, assign (.Subscript o i tpos) X.env v = (do
      let ov ← holding [v] (eval o X.env)
      let iv ← holding [v, ov] (eval i X.env)
      standAt tpos
      holding [v, ov, iv] (setItem ov iv v)
      release [v, ov, iv] []) := by intro _; rfl) (hs : swapsWithSole [.Subscript o i tpos] e pos.line X.env = pure false := by rfl) (hw : swappedStores [.Subscript o i tpos] e X.env = pure none := by rfl)
    (h1 : (assignEach [.Subscript o i tpos] X.env).map (·.2) = [assign (.Subscript o i tpos) X.env] := by rfl) :
    DS X (.Assign [.Subscript o i tpos] e pos) (tAsg te (gSub to ti rSetL)) (dSetL d1 d2 d3) :=
  ⟨ps_asg he.pe (pg_sub ho.pe hi.pe set_list ha) hs hw h1, fun σ H ρ S D E w rs q c => he.ab σ H ρ S _ _ w rs q fun v H1 d S1 r1 w1 s1 q1 => ho.ab σ H1 ρ S1 _ _ w1 (rs.mono s1) q1 fun ov H2 x S2 r2 w2 s2 q2 => hi.ab σ H2 ρ S2 _ _ w2 (rs.mono (s1.trans s2)) q2 fun iv H3 y S3 r3 w3 s3 q3 => by
    split at q3
    case h_2 => exact q3.elim
    rename_i p n
    obtain ⟨ds, hp, q3⟩ := q3.get
    obtain ⟨j, hj, q3⟩ := TheItem.get q3
    cases r2; cases r3
    obtain ⟨vs, h2, rl⟩ := owned_lst w3 hp
    have ow := vis_of hp
    refine ⟨p, vs, n, j, rfl, rfl, h2, by rw [rl.length]; exact hj, ?_⟩
    have st : Step H3 S3 (upd H3 p (.lst (vs.set j v))) (updS S3 p (.lst (ds.set j d))) := Step.chg ow.1 ow.2
    have s123 := (s1.trans s2).trans s3
    refine c.nx _ _ _ _ ((rs.mono s123).mono st) (w3.chg (m := .lst (ds.set j d)) ow.1 ow.2 ⟨_, upd_same, (RepL.set (r1.mono (s2.trans s3)) j rl).mono st⟩) (s123.trans st) ?_
    rw [vis_upd (by intro z; cases z)]
    exact q3⟩
end
end
end DL

namespace DL
open PySem PySem.Spec PyProof.Rows L2
/-! ### the top's names -/
structure Bts (mg : Str → Option Value) : Prop where
  len : mg "len" = none
  range : mg "range" = none
  int : mg "int" = none
  max : mg "max" = none
  min : mg "min" = none
  abs : mg "abs" = none
  sum : mg "sum" = none
  all : mg "all" = none
  list : mg "list" = none
  tuple : mg "tuple" = none
  sorted : mg "sorted" = none
  isinstance : mg "isinstance" = none
  zip : mg "zip" = none
  enumerate : mg "enumerate" = none
  set : mg "set" = none
  str : mg "str" = none
  bool : mg "bool" = none
theorem bb_len : bootBuiltins "len" = some (.builtin "len") := by decide +kernel
theorem bb_max : bootBuiltins "max" = some (.builtin "max") := by decide +kernel
theorem bb_min : bootBuiltins "min" = some (.builtin "min") := by decide +kernel
theorem bb_abs : bootBuiltins "abs" = some (.builtin "abs") := by decide +kernel
theorem bb_sum : bootBuiltins "sum" = some (.builtin "sum") := by decide +kernel
theorem bb_all : bootBuiltins "all" = some (.builtin "all") := by decide +kernel
theorem bb_sorted : bootBuiltins "sorted" = some (.builtin "sorted") := by decide +kernel
theorem bb_isinstance : bootBuiltins "isinstance" = some (.builtin "isinstance") := by decide +kernel
theorem bb_int : bootBuiltins "int" = some (.type "int") := by decide +kernel
theorem bb_list : bootBuiltins "list" = some (.type "list") := by decide +kernel
theorem bb_tuple : bootBuiltins "tuple" = some (.type "tuple") := by decide +kernel
theorem bb_str : bootBuiltins "str" = some (.type "str") := by decide +kernel
theorem bb_bool : bootBuiltins "bool" = some (.type "bool") := by decide +kernel
theorem bb_set : bootBuiltins "set" = some (.type "set") := by decide +kernel
/-- a def of the top as it stands -/
structure FunD (K : PySem.W.Frag) (mg : Str → Option Value) (x : Str) (st : Stmt) (ps : List Str) : Prop where
  ex : ∃ f fd, Fun K x x st f fd ∧ mg x = some (.ref f) ∧ Binds K fd ps []
/-- .. and what it promises -/
structure FnD (P : Program) (w : World) (K : PySem.W.Frag) (mg : Str → Option Value) (base : Heap) (k : Nat) (x : Str) (sp : DSp) : Prop where
  ex : ∃ f fd ps, FnOk P w K mg base CX0 k f fd ps (toSp K sp) ∧ mg x = some (.ref f) ∧ PySem.W.keepIn K (.ref f) = true ∧ Binds K fd ps []
theorem FnD.imp {P : Program} {w : World} {K : PySem.W.Frag} {mg : Str → Option Value} {base : Heap} {k : Nat} {x : Str} {sp sp' : DSp} (F : FnD P w K mg base k x sp) (h : ∀ ds S Q, sp' ds S Q → sp ds S Q) : FnD P w K mg base k x sp' := by
  obtain ⟨f, fd, ps, F, hm, hk, hb⟩ := F.ex
  exact ⟨f, fd, ps, F.imp fun vs H Q E ⟨ds, S, Qd, r, w, q, k⟩ => ⟨ds, S, Qd, r, w, h _ _ _ q, k⟩, hm, hk, hb⟩
theorem FnD.mono {P : Program} {w : World} {K : PySem.W.Frag} {mg : Str → Option Value} {base : Heap} {j k : Nat} {x : Str} {sp : DSp} (F : FnD P w K mg base j x sp) (h : j ≤ k) : FnD P w K mg base k x sp := by
  obtain ⟨f, fd, ps, F, hm, hk, hb⟩ := F.ex
  exact ⟨f, fd, ps, F.mono h, hm, hk, hb⟩
theorem okF {P : Program} {w : World} {K : PySem.W.Frag} {mg : Str → Option Value} {base : Heap} {x : Str} {st : Stmt} {N ps : List Str} {k : Nat} {sp : DSp} (F : FunD K mg x st ps) (Sc : FnScope N ps (defScope st)) (len : ∀ ds S Q, sp ds S Q → ds.length = ps.length)
    (hbody : ∀ (f : Addr) (cdv : Value) (A : Around) (outer : List Env) (s : Shared) (H : Hp) (E : XK), Room k (A.deeper (envOfC x (defScope st) s.heap.objs.size f cdv)) →
      ∃ ts td, DSs (cxOf CX0 P w K mg base N x (defScope st) f cdv A outer s H E).nox (defBody st) ts td ∧ ∀ ds S Q, sp ds S Q → td { nx := fun _ S' => Leave Q .non S', rt := Leave Q } (dstart N ds) S) : FnD P w K mg base (k + 1) x sp := by
  obtain ⟨f, fd, F, hm, hb⟩ := F.ex
  exact ⟨f, fd, ps, okD F Sc len (hbody f), hm, F.kp, hb⟩
section
variable {X : Cx} {k : Nat} {x : Str} {sp : DSp} {p pos : Pos} {e : Expr} {es : List Expr} {t : TA} {da : TDA}
theorem de_fn (F : FnD X.prog X.w X.K X.mg X.base k x sp) (hr : Room k X.A) (hg : Gl X x)
    (ha : DA X (e :: es) t da) (hdb : (x == ("__debug__" : Str)) = false := by decide) (he : starEach (e :: es) X.env = (false, eval e X.env) :: starEach es X.env := by rfl) (hpl : (backTo pos (starEach es X.env)).any (·.1) = false := by rfl) :
    DE X (.Call (.Name x p) (e :: es) [] pos) (tCall (toSp X.K sp) [] E0 t) (dCall sp da) := by
  obtain ⟨f, fd, ps, F, hm, hk, hb⟩ := F.ex
  exact de_call F hr hg hm hk hb ha hdb he hpl
theorem de_fn0 (F : FnD X.prog X.w X.K X.mg X.base k x sp) (hr : Room k X.A) (hg : Gl X x) (hdb : (x == ("__debug__" : Str)) = false := by decide) :
    DE X (.Call (.Name x p) [] [] pos) (tCall (toSp X.K sp) [] E0 tNil) (dCall sp dNil) := by
  obtain ⟨f, fd, ps, F, hm, hk, hb⟩ := F.ex
  exact de_call0 F hr hg hm hk hb hdb
end
theorem Room.u64 {k : Nat} {A : Around} (r : Room k A) : A.units + 64 < cLine := r.units
theorem Room.u65 {k : Nat} {A : Around} (r : Room k A) : A.units + 65 < cLine := by have := r.un; omega
theorem Room.u1 {k : Nat} {A : Around} (r : Room k A) : A.units + 1 < cLine := by have := r.un; omega
section
variable {X : Cx}
/-! ### a < b < c -/
def dChain (rd rd' : RD2) (ta tb tc : TD) : TD := fun ρ S Q => ta ρ S fun x S1 => tb ρ S1 fun y S2 => RdP rd S2 x y fun z S3 => match z with
  | .bl b => Br b (tc ρ S3 fun w S4 => RdP rd' S4 y w Q) (Q (.bl false) S3)
  | _ => False
theorem de_chain {op op' : CmpOp} {r r' : R2} {rd rd' : RD2} {a b c : Expr} {ta tb tc : TE} {da db dc : TD} {pos : Pos} (ho : DOp X (compareOp op) r rd) (ho' : DOp X (compareOp op') r' rd') (ha : DE X a ta da) (hb : DE X b tb db) (hc : DE X c tc dc)
    (hm : lastMarks [op, op'] [b, c] = false := by with_unfolding_all rfl) : DE X (.Compare a [op, op'] [b, c] pos) (tChain r r' ta tb tc) (dChain rd rd' da db dc) :=
  ⟨pe_chain ho.op ho'.op ha.pe hb.pe hc.pe hm, fun σ H ρ S Q Qv w rs q k => ha.ab σ H ρ S _ _ w rs q fun x H1 dx S1 rx w1 s1 q1 => hb.ab σ H1 ρ S1 _ _ w1 (rs.mono s1) q1 fun y H2 dy S2 ry w2 s2 q2 =>
    ho.ab H2 S2 x y _ _ _ _ w2 (peek_rep w2 (rx.mono s2)) (peek_rep w2 ry) q2.go fun z H3 dz S3 rz w3 s3 q3 => by
      cases dz with
      | bl b =>
        cases rz
        refine ⟨b, rfl, ?_⟩
        cases b with
        | true =>
          rw [if_pos rfl]
          refine hc.ab σ H3 ρ S3 _ _ w3 (rs.mono ((s1.trans s2).trans s3)) (q3.t rfl) fun u H4 du S4 ru w4 s4 q4 => ?_
          exact ho'.ab H4 S4 y u _ _ _ _ w4 (peek_rep w4 (ry.mono (s3.trans s4))) (peek_rep w4 ru) q4.go fun v H5 d S5 r5 w5 s5 q5 => k _ _ _ _ r5 w5 ((((s1.trans s2).trans s3).trans s4).trans s5) q5
        | false => rw [if_neg (by decide)]; exact k _ _ _ _ (.bl _) w3 ((s1.trans s2).trans s3) (q3.f rfl)
      | _ => exact q3.elim⟩
theorem dt_chain {op op' : CmpOp} {r r' : R2} {rd rd' : RD2} {a b c : Expr} {ta tb tc : TE} {da db dc : TD} {pos : Pos} (ho : DOp X (compareOp op) r rd) (ho' : DOp X (compareOp op') r' rd') (ha : DE X a ta da) (hb : DE X b tb db) (hc : DE X c tc dc)
    (hm : lastMarks [op, op'] [b, c] = false := by with_unfolding_all rfl) : DT X (.Compare a [op, op'] [b, c] pos) (tTest (tChain r r' ta tb tc)) (dTest (dChain rd rd' da db dc)) :=
  ⟨pt_chain ho.op ho'.op ha.pe hb.pe hc.pe hm, ab_test (de_chain (pos := pos) ho ho' ha hb hc hm).ab⟩
end
end DL

namespace DL
open PySem PySem.Spec PyProof.Rows L2
/-! ### loops, by their invariants -/
theorem rngL_len (lo hi : Int) : (rngL lo hi).length = (hi - lo).toNat := by unfold rngL; rw [List.length_map, List.length_range]
theorem rngL_get {lo hi : Int} {i : Nat} {d : D} (h : (rngL lo hi)[i]? = some d) : (i : Int) < hi - lo ∧ d = .int (lo + i) := by
  unfold rngL at h
  rw [List.getElem?_map] at h
  cases hc : (List.range (hi - lo).toNat)[i]? with
  | none => rw [hc] at h; cases h
  | some c =>
    rw [hc] at h
    obtain ⟨h1, h2⟩ := List.getElem?_eq_some_iff.mp hc
    rw [List.getElem_range] at h2
    subst h2
    rw [List.length_range] at h1
    cases h
    exact ⟨by omega, rfl⟩
section
variable {t u : TD} {g : TDG} {tb : TDS} {E : DEnds} {ρ : DSt} {S : Sto} {n m : Int}
theorem for_rng1 (ht : ∀ Q : DQ, Q (.int n) S → t ρ S Q) (hn : -(2 ^ 62) ≤ n ∧ n < 2 ^ 62) (W : Nat → DSt → Sto → Prop) (h0 : W 0 ρ S)
    (hs : ∀ (i : Nat) ρ' S', (i : Int) < n → W i ρ' S' → g (.int i) ρ' S' fun ρ2 S2 => tb { E with nx := W (i + 1), ct := W (i + 1), bk := E.nx } ρ2 S2) (hd : ∀ ρ' S', W n.toNat ρ' S' → E.nx ρ' S') : dFor (dRng1 t) g tb E ρ S := by
  refine ⟨ht _ ⟨hn, W, h0, fun i d ρ' S' h w => ?_, fun ρ' S' w => ?_⟩⟩
  · obtain ⟨h1, rfl⟩ := rngL_get h
    rw [Int.zero_add]
    exact hs i ρ' S' (by omega) w
  · rw [rngL_len, Int.sub_zero] at w
    exact hd ρ' S' w
theorem for_rng2 (ht : ∀ Q : DQ, Q (.int n) S → t ρ S Q) (hu : ∀ Q : DQ, Q (.int m) S → u ρ S Q) (hn : -(2 ^ 62) ≤ n ∧ n < 2 ^ 62 ∧ -(2 ^ 62) ≤ m ∧ m < 2 ^ 62) (W : Nat → DSt → Sto → Prop) (h0 : W 0 ρ S)
    (hs : ∀ (i : Nat) ρ' S', n + (i : Int) < m → W i ρ' S' → g (.int (n + i)) ρ' S' fun ρ2 S2 => tb { E with nx := W (i + 1), ct := W (i + 1), bk := E.nx } ρ2 S2) (hd : ∀ ρ' S', W (m - n).toNat ρ' S' → E.nx ρ' S') : dFor (dRng2 t u) g tb E ρ S := by
  refine ⟨ht _ (hu _ ⟨hn, W, h0, fun i d ρ' S' h w => ?_, fun ρ' S' w => ?_⟩)⟩
  · obtain ⟨h1, rfl⟩ := rngL_get h
    exact hs i ρ' S' (by omega) w
  · rw [rngL_len] at w
    exact hd ρ' S' w
theorem for_tup {L : List D} (ht : ∀ Q : DQ, Q (.tup L) S → t ρ S Q) (W : Nat → DSt → Sto → Prop) (h0 : W 0 ρ S)
    (hs : ∀ (i : Nat) (d : D) ρ' S', L[i]? = some d → W i ρ' S' → g d ρ' S' fun ρ2 S2 => tb { E with nx := W (i + 1), ct := W (i + 1), bk := E.nx } ρ2 S2) (hd : ∀ ρ' S', W L.length ρ' S' → E.nx ρ' S') : dFor (dItT t) g tb E ρ S :=
  ⟨ht _ ⟨W, h0, fun i d ρ' S' h w => hs i d ρ' S' h w, hd⟩⟩
theorem for_lst {L : List D} (ht : ∀ Q : DQ, Q (.lst L) S → t ρ S Q) (W : Nat → DSt → Sto → Prop) (h0 : W 0 ρ S)
    (hs : ∀ (i : Nat) (d : D) ρ' S', L[i]? = some d → W i ρ' S' → g d ρ' S' fun ρ2 S2 => tb { E with nx := W (i + 1), ct := W (i + 1), bk := E.nx } ρ2 S2) (hd : ∀ ρ' S', W L.length ρ' S' → E.nx ρ' S') : dFor (dItL t) g tb E ρ S :=
  ⟨ht _ ⟨W, h0, fun i d ρ' S' h w => hs i d ρ' S' h w, hd⟩⟩
theorem for_str {x : Str} (ht : ∀ Q : DQ, Q (.str x) S → t ρ S Q) (W : Nat → DSt → Sto → Prop) (h0 : W 0 ρ S)
    (hs : ∀ (i : Nat) (c : Nat) ρ' S', x.cps.toList[i]? = some c → W i ρ' S' → g (.str ⟨#[c]⟩) ρ' S' fun ρ2 S2 => tb { E with nx := W (i + 1), ct := W (i + 1), bk := E.nx } ρ2 S2) (hd : ∀ ρ' S', W x.cps.size ρ' S' → E.nx ρ' S') : dFor (dItS t) g tb E ρ S := by
  refine ⟨ht _ ⟨W, h0, fun i d ρ' S' h w => ?_, fun ρ' S' w => ?_⟩⟩
  · rw [List.getElem?_map] at h
    cases hc : x.cps.toList[i]? with
    | none => rw [hc] at h; cases h
    | some c =>
      rw [hc] at h
      cases h
      exact hs i c ρ' S' hc w
  · rw [List.length_map, Array.length_toList] at w
    exact hd ρ' S' w
end
/-! ### comprehensions that only read -/
section
variable {ti : TDI} {g : TDG} {tt : TDT} {te : TD} {vs : List Nat} {ρ : DSt} {S : Sto} {Q : DQ} {L : List D}
theorem lc_pure (hti : ∀ R : List D → Sto → Prop, R L S → ti ρ S R) (hl : SzOk L.length) (p : D → Bool) (f : D → D)
    (h : ∀ d ∈ L, ∀ (R : DQ) (R0 : Sto → Prop), (p d = true → R (f d) S) → (p d = false → R0 S) → g d (dwipe ρ vs) S fun ρ2 S2 => tt ρ2 S2 fun b S3 => Br b (te ρ2 S3 R) (R0 S3))
    (hq : Q (.lst ((L.filter p).map f)) S) : dLc ti g tt te vs ρ S Q := by
  refine ⟨hti _ ⟨hl, fun i acc S' => acc = ((L.take i).filter p).map f ∧ S' = S, ⟨rfl, rfl⟩, ?_, ?_⟩⟩
  · rintro i d acc S' hd ⟨rfl, rfl⟩
    have e : L.take (i + 1) = L.take i ++ [d] := by rw [List.take_add_one, hd]; rfl
    have hm : d ∈ L := List.mem_of_getElem? hd
    refine h d hm (fun y S4 => ((L.take i).filter p).map f ++ [y] = ((L.take (i + 1)).filter p).map f ∧ S4 = S') (fun S4 => ((L.take i).filter p).map f = ((L.take (i + 1)).filter p).map f ∧ S4 = S') (fun hp => ⟨?_, rfl⟩) (fun hp => ⟨?_, rfl⟩)
    · rw [e, List.filter_append, List.map_append, List.filter_cons, if_pos hp]; rfl
    · rw [e, List.filter_append, List.map_append, List.filter_cons, if_neg (by rw [hp]; decide)]
      show _ = _ ++ []
      rw [List.append_nil]
  · rintro acc S' ⟨rfl, rfl⟩
    rw [List.take_length]
    exact hq
theorem lc_map (hti : ∀ R : List D → Sto → Prop, R L S → ti ρ S R) (hl : SzOk L.length) (f : D → D)
    (h : ∀ d ∈ L, ∀ (R : DQ) (R0 : Sto → Prop), R (f d) S → g d (dwipe ρ vs) S fun ρ2 S2 => tt ρ2 S2 fun b S3 => Br b (te ρ2 S3 R) (R0 S3)) (hq : Q (.lst (L.map f)) S) : dLc ti g tt te vs ρ S Q := by
  refine lc_pure hti hl (fun _ => true) f (fun d hd R R0 a _ => h d hd R R0 (a rfl)) ?_
  rw [List.filter_eq_self.mpr (fun _ _ => rfl)]
  exact hq
end
/-- lo, lo + 1, .. below hi -/
def irg (lo hi : Int) : List Int := (List.range (hi - lo).toNat).map fun i => lo + (i : Nat)
theorem rngL_irg (lo hi : Int) : rngL lo hi = (irg lo hi).map D.int := by unfold rngL irg; rw [List.map_map]; rfl
theorem irg_len (lo hi : Int) : (irg lo hi).length = (hi - lo).toNat := by unfold irg; rw [List.length_map, List.length_range]
theorem mem_irg {lo hi x : Int} : x ∈ irg lo hi ↔ lo ≤ x ∧ x < hi := by
  unfold irg
  rw [List.mem_map]
  constructor
  · rintro ⟨i, h, rfl⟩
    rw [List.mem_range] at h
    omega
  · rintro ⟨h1, h2⟩
    exact ⟨(x - lo).toNat, by rw [List.mem_range]; omega, by omega⟩
theorem filter_ints (p : Int → Bool) (f : Int → D) (l : List Int) : (((l.map D.int).filter fun d => match d with | .int i => p i | _ => false).map fun d => match d with | .int i => f i | _ => .non) = (l.filter p).map f := by
  induction l with
  | nil => rfl
  | cons x l ih =>
    rw [List.map_cons, List.filter_cons, List.filter_cons]
    show (if p x = true then _ else _ : List D).map _ = _
    by_cases h : p x = true
    · rw [if_pos h, if_pos h, List.map_cons, List.map_cons, ih]
    · rw [if_neg h, if_neg h, ih]
section
variable {t u : TD} {g : TDG} {tt : TDT} {te : TD} {vs : List Nat} {ρ : DSt} {S : Sto} {Q : DQ} {n m : Int}
theorem lc_rng2 (ht : ∀ Q : DQ, Q (.int n) S → t ρ S Q) (hu : ∀ Q : DQ, Q (.int m) S → u ρ S Q) (hn : -(2 ^ 24) ≤ n ∧ n ≤ 2 ^ 23 ∧ -(2 ^ 24) ≤ m ∧ m ≤ 2 ^ 23 ∧ m - n ≤ 2 ^ 23) (p : Int → Bool) (f : Int → D)
    (h : ∀ i, n ≤ i → i < m → ∀ (R : DQ) (R0 : Sto → Prop), (p i = true → R (f i) S) → (p i = false → R0 S) → g (.int i) (dwipe ρ vs) S fun ρ2 S2 => tt ρ2 S2 fun b S3 => Br b (te ρ2 S3 R) (R0 S3))
    (hq : Q (.lst (((irg n m).filter p).map f)) S) : dLc (dRng2 t u) g tt te vs ρ S Q := by
  refine lc_pure (L := rngL n m) (fun R r => ht _ (hu _ ⟨by omega, r⟩)) (sz_le (by rw [rngL_len]; omega)) (fun d => match d with | .int i => p i | _ => false) (fun d => match d with | .int i => f i | _ => .non) (fun d hd R R0 a b => ?_) ?_
  · rw [rngL_irg] at hd
    obtain ⟨i, hi, rfl⟩ := List.mem_map.mp hd
    obtain ⟨h1, h2⟩ := mem_irg.mp hi
    exact h i h1 h2 R R0 a b
  · rw [rngL_irg, filter_ints]
    exact hq
theorem lc_rng1 (ht : ∀ Q : DQ, Q (.int n) S → t ρ S Q) (hn : -(2 ^ 24) ≤ n ∧ n ≤ 2 ^ 23) (p : Int → Bool) (f : Int → D)
    (h : ∀ i, 0 ≤ i → i < n → ∀ (R : DQ) (R0 : Sto → Prop), (p i = true → R (f i) S) → (p i = false → R0 S) → g (.int i) (dwipe ρ vs) S fun ρ2 S2 => tt ρ2 S2 fun b S3 => Br b (te ρ2 S3 R) (R0 S3))
    (hq : Q (.lst (((irg 0 n).filter p).map f)) S) : dLc (dRng1 t) g tt te vs ρ S Q := by
  refine lc_pure (L := rngL 0 n) (fun R r => ht _ ⟨by omega, r⟩) (sz_le (by rw [rngL_len]; omega)) (fun d => match d with | .int i => p i | _ => false) (fun d => match d with | .int i => f i | _ => .non) (fun d hd R R0 a b => ?_) ?_
  · rw [rngL_irg] at hd
    obtain ⟨i, hi, rfl⟩ := List.mem_map.mp hd
    obtain ⟨h1, h2⟩ := mem_irg.mp hi
    exact h i h1 h2 R R0 a b
  · rw [rngL_irg, filter_ints]
    exact hq
theorem mc_rng2 (ht : ∀ Q : DQ, Q (.int n) S → t ρ S Q) (hu : ∀ Q : DQ, Q (.int m) S → u ρ S Q) (hn : -(2 ^ 24) ≤ n ∧ n ≤ 2 ^ 23 ∧ -(2 ^ 24) ≤ m ∧ m ≤ 2 ^ 23 ∧ m - n ≤ 2 ^ 23) (f : Int → D)
    (h : ∀ i, n ≤ i → i < m → ∀ (R : DQ) (R0 : Sto → Prop), R (f i) S → g (.int i) (dwipe ρ vs) S fun ρ2 S2 => tt ρ2 S2 fun b S3 => Br b (te ρ2 S3 R) (R0 S3))
    (hq : Q (.lst ((irg n m).map f)) S) : dLc (dRng2 t u) g tt te vs ρ S Q :=
  lc_rng2 ht hu hn (fun _ => true) f (fun i h1 h2 R R0 a _ => h i h1 h2 R R0 (a rfl)) (by rw [List.filter_eq_self.mpr (fun _ _ => rfl)]; exact hq)
theorem mc_rng1 (ht : ∀ Q : DQ, Q (.int n) S → t ρ S Q) (hn : -(2 ^ 24) ≤ n ∧ n ≤ 2 ^ 23) (f : Int → D)
    (h : ∀ i, 0 ≤ i → i < n → ∀ (R : DQ) (R0 : Sto → Prop), R (f i) S → g (.int i) (dwipe ρ vs) S fun ρ2 S2 => tt ρ2 S2 fun b S3 => Br b (te ρ2 S3 R) (R0 S3))
    (hq : Q (.lst ((irg 0 n).map f)) S) : dLc (dRng1 t) g tt te vs ρ S Q :=
  lc_rng1 ht hn (fun _ => true) f (fun i h1 h2 R R0 a _ => h i h1 h2 R R0 (a rfl)) (by rw [List.filter_eq_self.mpr (fun _ _ => rfl)]; exact hq)
end
/-! ### the tape -/
/-- the sides -/
abbrev sd (b : Bool) : Str := if b then "A" else "B"

def TapeOk (m : MO) : Prop := ∃ (l : List Int) (i c : Int), m = .lst [.lst (l.map D.int), .int i, .int c] ∧ 0 ≤ i ∧ 0 ≤ c
def sp_l_draw : DSp := fun ds S Q => ∃ T m tp, ds = [.ref T, .int m] ∧ (0 < m ∧ m ≤ 10 ^ 12) ∧ S T = some tp ∧ TapeOk tp ∧ ∀ n tp', 0 ≤ n → n < m → TapeOk tp' → Q (.int n) (updS S T tp')
def sp_l_side : DSp := fun ds S Q => ∃ T tp, ds = [.ref T] ∧ S T = some tp ∧ TapeOk tp ∧ ∀ (b : Bool) tp', TapeOk tp' → Q (.str (sd b)) (updS S T tp')
theorem small_log {m : Int} (h : 0 < m) (h2 : m ≤ 10 ^ 12) : m.natAbs.log2 < 9000 := by
  have h2 : m.natAbs < 2 ^ 9000 := Nat.lt_of_le_of_lt (m := 10 ^ 12) (by omega) (by decide +kernel)
  exact PySem.Flt.log2_lt_of (by decide) h2
theorem sAB : (("A" : Str) = "B") = False := by simp only [eq_iff_iff, iff_false]; decide +kernel
theorem sBA : (("B" : Str) = "A") = False := by simp only [eq_iff_iff, iff_false]; decide +kernel
theorem at_map {α β : Type} {f : α → β} {l : List α} {j : Int} {x : α} (h : atI l j = some x) : atI (l.map f) j = some (f x) := by
  unfold atI at h ⊢
  rw [List.length_map]
  cases e : ixN l.length j with
  | none => rw [e] at h; cases h
  | some i =>
    rw [e] at h
    show (l.map f)[i]? = some (f x)
    rw [List.getElem?_map]
    show Option.map f l[i]? = _
    rw [show l[i]? = some x from h]; rfl
theorem at_in {α : Type} {l : List α} {j : Int} (h0 : 0 ≤ j) (h1 : j < l.length) : ∃ x, atI l j = some x := by
  obtain ⟨n, rfl⟩ := Int.eq_ofNat_of_zero_le h0
  have h : n < l.length := by omega
  exact ⟨l[n], atI_nat (List.getElem?_eq_getElem h)⟩
theorem at_int {l : List Int} {j : Int} (h0 : 0 ≤ j) (h1 : j < (l.map D.int).length) : ∃ x, atI (l.map D.int) j = some (.int x) := by
  rw [List.length_map] at h1
  obtain ⟨x, h⟩ := at_in h0 h1
  exact ⟨x, at_map h⟩
/-- irg's items -/
theorem at_irg {lo hi i : Int} (h0 : 0 ≤ i) (h1 : lo + i < hi) : atI (irg lo hi) i = some (lo + i) := by
  obtain ⟨n, rfl⟩ := Int.eq_ofNat_of_zero_le h0
  refine atI_nat ?_
  unfold irg
  rw [List.getElem?_map, List.getElem?_range (by omega)]; rfl
theorem at_fun {f : Int → D} {n i : Int} (h0 : 0 ≤ i) (h1 : i < n) : atI ((irg 0 n).map f) i = some (f i) := by
  have h := at_map (f := f) (at_irg (lo := 0) (hi := n) h0 (by omega))
  rw [Int.zero_add] at h
  exact h
theorem updS_ex {S : Sto} {a : Addr} {m : MO} (h : S a = some m) : ∃ S1, S = updS S1 a m := ⟨S, by
  funext b
  unfold updS
  by_cases e : b = a
  · subst e; rw [if_pos rfl, h]
  · rw [if_neg e]⟩
theorem decAA : decide (("A" : Str) = "A") = true := decide_eq_true rfl
theorem decBB : decide (("B" : Str) = "B") = true := decide_eq_true rfl
theorem decAB : decide (("A" : Str) = "B") = false := decide_eq_false (by decide +kernel)
theorem decBA : decide (("B" : Str) = "A") = false := decide_eq_false (by decide +kernel)
theorem peek_updS {S : Sto} {a : Addr} {ds : List D} : peek (updS S a (.lst ds)) (.ref a) = .lst ds := peek_ref updS_same
theorem log_small {m : Int} (h : 0 < m ∧ m ≤ 10 ^ 12) : CDivW 0 m := ⟨h.1, small_log h.1 h.2⟩
end DL

namespace DL
open PySem PySem.Spec PyProof.Rows L2
/-! ### the rules that speak of the written part, with it named (for blocks) -/
section
variable {X : Cx} {K : PySem.W.Frag} {e a b o i : Expr} {es : List Expr} {te ta tb to ti : TE} {t da db d d1 d2 : TD} {tl : TA} {dl : TDA} {pos p p2 apos tpos : Pos}
theorem k_tru (h : DE X e te t) (hK : X.K = K := by rfl) (hs : ∀ whole, isTrue e X.env whole = (do let v ← whole; standAt e.pos; holding [v] (truthy v)) := by intro _; rfl) : DT X e (fun σ H Q => te σ H fun x H' => ∃ k, TruV K x H' k ∧ Q k H') (dTru t) := by
  subst hK; exact dt_tru h hs
theorem k_add (hK : X.K = K := by rfl) : DOp X (binaryOp .Add) (fun x y H Q => rI0 (fun i j => .int (i + j)) x y H Q ∨ ((∃ i j, x = V.str i ∧ y = V.str j ∧ i.length + j.length ≤ sizeLine ∧ Q (.str (i ++ j)) H) ∨ (rCatA K x y H Q ∨ rCat x y H Q))) addD := by
  subst hK; exact do_add
theorem k_eq (hu : X.A.units + 64 < cLine) (hK : X.K = K := by rfl) : DOp X (compareOp .Eq) (fun x y H Q => rEq x y H Q ∨ rEqD K x y H Q) eqD := by
  subst hK; exact do_eq hu
theorem k_ne (hu : X.A.units + 64 < cLine) (hK : X.K = K := by rfl) : DOp X (compareOp .NotEq) (fun x y H Q => rNe x y H Q ∨ rNeD K x y H Q) neD := by
  subst hK; exact do_ne hu
theorem k_in (hu : X.A.units + 65 < cLine) (hK : X.K = K := by rfl) : DOp X (compareOp .In) (fun x y H Q => rIn K false x y H Q ∨ ((if false = true then rNotInD K else rInD K) x y H Q ∨ (∃ (c : Nat) (z : Str), x = .str ⟨#[c]⟩ ∧ y = .str z ∧ Q (.bl (if false = true then !decide (c ∈ z.cps.toList) else decide (c ∈ z.cps.toList))) H))) (inD false) := by
  subst hK; exact do_in hu
theorem k_notin (hu : X.A.units + 65 < cLine) (hK : X.K = K := by rfl) : DOp X (compareOp .NotIn) (fun x y H Q => rIn K true x y H Q ∨ ((if true = true then rNotInD K else rInD K) x y H Q ∨ (∃ (c : Nat) (z : Str), x = .str ⟨#[c]⟩ ∧ y = .str z ∧ Q (.bl (if true = true then !decide (c ∈ z.cps.toList) else decide (c ∈ z.cps.toList))) H))) (inD true) := by
  subst hK; exact do_notin hu
theorem k_star (h : DE X e te d) (hr : DA X es tl dl) (hK : X.K = K := by rfl) (hs : starEach (.Starred e p :: es) X.env = (true, eval e X.env) :: starEach es X.env := by rfl) : DA X (.Starred e p :: es) (StX.tStar K te tl) (dStar d dl) := by
  subst hK; exact da_star h hr hs
theorem k_len (hK : X.K = K := by rfl) : DC X (.builtin "len") (fun xs H Q => ∃ x n, xs = [x] ∧ LenV K x H n ∧ Q (.int n) H) lenD := by
  subst hK; exact dc_len
theorem k_sum (hc : X.calm = true) (hK : X.K = K := by rfl) : DC X (.builtin "sum") (rSum K) sumD := by
  subst hK; exact dc_sum hc
theorem k_all (hc : X.calm = true) (hK : X.K = K := by rfl) : DC X (.builtin "all") (rAll K) allD := by
  subst hK; exact dc_all hc
theorem k_list (hK : X.K = K := by rfl) : DC X (.type "list") (fun xs H Q => ∃ p ys, xs = [.ref p] ∧ (SqL K H p ys ∨ SqT K H p ys) ∧ ∀ l, H l = none → Q (.ref l) (upd H l (.lst ys))) listD := by
  subst hK; exact dc_list
theorem k_tuple (hK : X.K = K := by rfl) : DC X (.type "tuple") (fun xs H Q => ∃ p ys, xs = [.ref p] ∧ ((SqL K H p ys ∧ ∀ l, H l = none → Q (.ref l) (upd H l (.tup ys))) ∨ (SqT K H p ys ∧ Q (.ref p) H))) tupleD := by
  subst hK; exact dc_tuple
theorem k_ix (ha : DE X a ta da) (hb : DE X b tb db) (hK : X.K = K := by rfl) (hs : PlainIx b := by intro _ _; rfl) : DE X (.Subscript a b pos) (tOp (rIx K) ta tb) (dOp ixD da db) := by
  subst hK; exact de_ix ha hb hs
theorem k_sl {lo hi : Option Expr} {tl th : TO} {dl dh : TDO} (he : DE X e te d) (hl : DO X lo tl dl) (hh : DO X hi th dh) (hK : X.K = K := by rfl) : DE X (.Subscript e (.Slice lo hi none p2) pos) (tSl (rSl K) te tl th) (dSl d dl dh) := by
  subst hK; exact de_sl he hl hh
theorem k_fn {k : Nat} {x : Str} {sp : DSp} (F : FnD X.prog X.w X.K X.mg X.base k x sp) (hr : Room k X.A) (hg : Gl X x) (ha : DA X (e :: es) tl dl) (hK : X.K = K := by rfl) (hdb : (x == ("__debug__" : Str)) = false := by decide)
    (he : starEach (e :: es) X.env = (false, eval e X.env) :: starEach es X.env := by rfl) (hpl : (backTo pos (starEach es X.env)).any (·.1) = false := by rfl) : DE X (.Call (.Name x p) (e :: es) [] pos) (tCall (toSp K sp) [] E0 tl) (dCall sp dl) := by
  subst hK; exact de_fn F hr hg ha hdb he hpl
theorem k_fn0 {k : Nat} {x : Str} {sp : DSp} (F : FnD X.prog X.w X.K X.mg X.base k x sp) (hr : Room k X.A) (hg : Gl X x) (hK : X.K = K := by rfl) (hdb : (x == ("__debug__" : Str)) = false := by decide) : DE X (.Call (.Name x p) [] [] pos) (tCall (toSp K sp) [] E0 tNil) (dCall sp dNil) := by
  subst hK; exact de_fn0 F hr hg hdb
theorem k_dgTup {kk : Nat} {tg : TGs} {dg : TDGs} {n : Nat} {is : List Nat} (hc : X.calm = true) (h : DGs X es tg dg is) (hK : X.K = K := by rfl) (hn : (assignEach es X.env).length = n := by rfl) (hst : (assignEach es X.env).findIdx? (·.1) = none := by rfl) : DG X (.Tuple es kk pos) (gTup K n tg) (dgTup n dg) is := by
  subst hK; exact dg_tup hc h hn hst
theorem k_diList {tg : Expr} (he : DE X e te t) (hK : X.K = K := by rfl) : DI X tg e (iList K te) (dItL t) := by
  subst hK; exact di_list he
theorem k_diTup {tg : Expr} (he : DE X e te t) (hK : X.K = K := by rfl) : DI X tg e (iTup K te) (dItT t) := by
  subst hK; exact di_tup he
theorem k_inK {x : Str} {ps : Pos} {c : Addr} {vs : List V} {ds : List D} (hg : Gl X x) (hm : X.mg x = some (.ref c)) (hs : ∀ H, SqT X.K H c vs) (hr : ∀ H S, RepL X.K H S vs ds) (hf : ds.all flatD = true) (ha : DE X a ta da) (hK : X.K = K := by rfl)
    (hmk : behindInMarks .In (.Name x ps) = false := by rfl) (hdb : (x == ("__debug__" : Str)) = false := by decide) :
    DE X (.Compare a [.In] [.Name x ps] pos) (tOp (rIn K false) ta (tC (.ref c))) (fun ρ S Q => da ρ S fun d S1 => flatD d = true ∧ Q (.bl (inF d ds)) S1) := by
  subst hK; exact de_inK hg hm hs hr hf ha hmk hdb
end
theorem sdtA : decide (sd true = ("A" : Str)) = true := decAA
theorem sdtB : decide (sd true = ("B" : Str)) = false := decAB
theorem sdfA : decide (sd false = ("A" : Str)) = false := decBA
theorem sdfB : decide (sd false = ("B" : Str)) = true := decBB
theorem sdtt : decide (sd true = sd true) = true := decAA
theorem sdtf : decide (sd true = sd false) = false := decAB
theorem sdft : decide (sd false = sd true) = false := decBA
theorem sdff : decide (sd false = sd false) = true := decBB
theorem dAsd (b : Bool) : decide (("A" : Str) = sd b) = b := by cases b; exact decAB; exact decAA
theorem dBsd (b : Bool) : decide (("B" : Str) = sd b) = !b := by cases b; exact decBB; exact decBA
theorem dsdA (b : Bool) : decide (sd b = ("A" : Str)) = b := by cases b; exact decBA; exact decAA
theorem dsdB (b : Bool) : decide (sd b = ("B" : Str)) = !b := by cases b; exact decBB; exact decAB
theorem dsd (a b : Bool) : decide (sd a = sd b) = (a == b) := by cases a <;> cases b <;> first | exact decAA | exact decBB | exact decAB | exact decBA
end DL

namespace DL
open PySem PySem.Spec PyProof.Rows L2
/-! ### list(range(..)) -/
/-- lo, lo + c, .. (n of them) -/
def irgC (lo c : Int) (n : Nat) : List Int := (List.range n).map fun i => lo + (i : Nat) * c
theorem irgC_len (lo c : Int) (n : Nat) : (irgC lo c n).length = n := by unfold irgC; rw [List.length_map, List.length_range]
theorem RgC.one {i j : Int} (h : -(2 ^ 62) ≤ i ∧ i < 2 ^ 62 ∧ -(2 ^ 62) ≤ j ∧ j < 2 ^ 62) : RgC i j 1 (j - i).toNat := ⟨by decide, by decide, small_one h.1 h.2.1 h.2.2.1 h.2.2.2, rangeSize_nat i j⟩
theorem RgC.two {i j : Int} (h : -(2 ^ 60) ≤ i ∧ i < 2 ^ 60 ∧ -(2 ^ 60) ≤ j ∧ j < 2 ^ 60) : RgC i j 2 ((j - i + 1) / 2).toNat := by
  have e : Builtin.Range.rangeSize i j 2 = (((j - i + 1) / 2).toNat : Int) := by
    unfold Builtin.Range.rangeSize
    split
    · split <;> omega
    · omega
  refine ⟨by decide, by decide, ?_, e⟩
  unfold Builtin.Range.small
  rw [e]
  simp only [Builtin.Range.rangeFitsLong, Bool.and_eq_true, Bool.or_eq_true, decide_eq_true_eq, beq_iff_eq, show (2 : Int) > 0 by decide, if_true]
  omega
/-- a range as an argument -/
def PRgC (X : Cx) (e : Expr) (t : L2.St → Hp → (Int → Int → Int → Nat → Hp → Prop) → Prop) : Prop :=
  ∀ (pins : List (Addr × Obj)) (s : Shared) (σ : L2.St) (H : Hp) (Q : Int → Int → Int → Nat → Hp → Prop), Inv X pins σ H s → t σ H Q →
    wpAny (model X.prog X.w) X.A (eval e X.env) (fun x s' => ∃ r a b c n t u v H', x = .ref r ∧ IsRange s'.heap r a b c t u v ∧ RgC a b c n ∧ Inv X pins σ H' s' ∧ Q a b c n H') X.xe s
section
variable {X : Cx} {a b c : Expr} {ta : TA} {p pos : Pos}
def tRg3 (ta : TA) : L2.St → Hp → (Int → Int → Int → Nat → Hp → Prop) → Prop := fun σ H R => ta σ H fun vs H1 => ∃ (i j c : Int) (n : Nat), vs = [.int i, .int j, .int c] ∧ RgC i j c n ∧ R i j c n H1
theorem prg_3 (hg : Gl X "range") (hm : X.mg "range" = none) (ha : PA X [a, b, c] ta)
    (hs : starEach [a, b, c] X.env = (false, eval a X.env) :: starEach [b, c] X.env := by rfl) (hpl : (backTo pos (starEach [b, c] X.env)).any (·.1) = false := by rfl) :
    PRgC X (.Call (.Name "range" p) [a, b, c] [] pos) (tRg3 ta) := by
  intro pins s σ H R I h
  refine Call_ (ld_blt I hg hm boot_range (PyProof.Rows.callWith_type1 (thn (ha.run pos pins s σ H _ I h) fun us s1 ⟨vs, H1, I1, r1, q1⟩ => ?_) hs hpl))
  obtain ⟨i, j, k, n, e, ok, q⟩ := q1
  subst e
  cases r1 with
  | cons r rr =>
    cases rr with
    | cons r' rr =>
      cases rr with
      | cons r'' rr =>
        cases rr
        obtain ⟨t, rfl⟩ := r
        obtain ⟨t', rfl⟩ := r'
        obtain ⟨t'', rfl⟩ := r''
        refine call_range_3 ok.1 ?_ (.inl (PyProof.noPylong_small ok.2.1))
        exact ⟨_, i, j, k, n, _, _, _, H1, rfl, IsRange.new _ _ _ _ _ _ _, ok, I1.kept fun b u e => Heap.get?_push_of_some _ e, q⟩
theorem prg_of1 {e : Expr} {te : L2.St → Hp → (Int → Int → Hp → Prop) → Prop} (h : PRg X e te) : PRgC X e (fun σ H R => te σ H fun a b H1 => RgOk a b ∧ R a b 1 (b - a).toNat H1) := fun pins s σ H Q I q =>
  thn (h pins s σ H _ I q) fun x s1 ⟨r, a, b, t, u, v, H1, e, hr, I1, ok, q⟩ => ⟨r, a, b, 1, (b - a).toNat, t, u, v, H1, e, hr, RgC.one ⟨ok.1, ok.2.1, ok.2.2.1, ok.2.2.2.1⟩, I1, q⟩
theorem vals_irg {i c : Int} {n : Nat} {acc : Array Value} (h : ItemsOf (fun j v => ∃ t, v = .int (i + j * c) t) acc n) : Vals ((irgC i c n).map V.int) acc.toList := by
  have e : acc.toList.length = n := by rw [Array.length_toList]; exact h.1
  unfold irgC
  rw [← e, List.map_map]
  refine vals_of_get acc.toList _ fun j u hj => ?_
  obtain ⟨t, rfl⟩ := h.2 j u (by rw [← hj, Array.getElem?_toList])
  exact ⟨t, rfl⟩
variable {e : Expr} {te : L2.St → Hp → (Int → Int → Int → Nat → Hp → Prop) → Prop}
def tLstRgC (te : L2.St → Hp → (Int → Int → Int → Nat → Hp → Prop) → Prop) : TE := fun σ H Q => te σ H fun a b c n H1 => n ≤ 2 ^ 24 ∧ ∀ q, H1 q = none → Q (.ref q) (upd H1 q (.lst ((irgC a c n).map V.int)))
theorem pe_listRgC (hc : X.calm = true) (hg : Gl X "list") (hm : X.mg "list" = none) (he : PRgC X e te) (na : starEach [e] X.env = (false, eval e X.env) :: starEach [] X.env := by rfl) : PE X (.Call (.Name "list" p) [e] [] pos) (tLstRgC te) := by
  refine ⟨fun pins s σ H Q I h => ?_⟩
  refine Call_ (ld_blt I hg hm boot_list (PyProof.Rows.callWith_type1 (args_cons (thn (he pins s σ H _ I h) fun x s1 ⟨r, a, b, c, n, t, u, v, H1, ex, hr, ok, I1, b5, q⟩ => args_nil ?_) na) na))
  subst ex
  refine call_list_range (n := n) (I1.ok.hd hc) hr ok.2.2.1 ok.2.2.2 b5 fun h' tk acc c' hk e' hi => ?_
  refine ⟨.ref s1.heap.objs.size, upd H1 s1.heap.objs.size (.lst ((irgC a c n).map V.int)), I1.laid hk (Nat.le_refl _) (show ObjOk X.prog X.w _ _ _ (.lst ((irgC a c n).map V.int)) from ⟨?_, acc.toList, c', vals_irg hi, ?_⟩), rfl, q _ (I1.hok.fresh (Nat.le_refl _))⟩
  · rw [List.length_map, irgC_len, sizeLine_eq]; omega
  · rw [Array.toArray_toList]; exact e'
variable {K : PySem.W.Frag} {tx ty tz : TE} {dx dy dz : TD}
/-- list(range(a, b, c)): n items -/
def dLstRg3 (t : TDA) : TD := fun ρ S Q => t ρ S fun ds S1 => match ds with
  | [.int i, .int j, .int c] => ∃ n, RgC i j c n ∧ n ≤ 2 ^ 24 ∧ Q (.lst ((irgC i c n).map D.int)) S1
  | _ => False
theorem listRg_k {H1 : Hp} {S1 : Sto} {Q : DQ} {Qv : VK} {l : List Int} {H0 : Hp} {S0 : Sto} (w1 : Wd K H1 S1) (s1 : Step H0 S0 H1 S1) (q : Q (.lst (l.map D.int)) (vis S1)) (k : ∀ v H' d S', Rep K H' S' v d → Wd K H' S' → Step H0 S0 H' S' → Q d (vis S') → Qv v H') :
    ∀ p, H1 p = none → Qv (.ref p) (upd H1 p (.lst (l.map V.int))) := fun p hp =>
  k _ _ _ _ (.lst upd_same (w1.free hp) (RepL.ints.mono (Step.new w1 hp))) (w1.new hp) (s1.trans (Step.new w1 hp)) q
theorem de_listRg3 {da : TDA} {p2 pos2 : Pos} (hc : X.calm = true) (hgl : Gl X "list") (hml : X.mg "list" = none) (hg : Gl X "range") (hm : X.mg "range" = none) (ha : DA X [a, b, c] ta da)
    (hs : starEach [a, b, c] X.env = (false, eval a X.env) :: starEach [b, c] X.env := by rfl) (hpl : (backTo pos (starEach [b, c] X.env)).any (·.1) = false := by rfl) (na : starEach [.Call (.Name "range" p) [a, b, c] [] pos] X.env = (false, eval (.Call (.Name "range" p) [a, b, c] [] pos) X.env) :: starEach [] X.env := by rfl) :
    DE X (.Call (.Name "list" p2) [.Call (.Name "range" p) [a, b, c] [] pos] [] pos2) (tLstRgC (tRg3 ta)) (dLstRg3 da) :=
  ⟨pe_listRgC hc hgl hml (prg_3 hg hm ha.pa hs hpl) na, fun σ H ρ S Q Qv w rs q k => ha.ab σ H ρ S _ _ w rs q fun vs H1 ds S1 r1 w1 s1 q1 => by
    split at q1
    · obtain ⟨n, ok, hn, q1⟩ := q1
      cases r1 with
      | cons r rr => cases rr with
        | cons r' rr => cases rr with
          | cons r'' rr =>
            cases rr
            cases r; cases r'; cases r''
            exact ⟨_, _, _, n, rfl, ok, hn, listRg_k w1 s1 q1 k⟩
    · exact q1.elim⟩
def dLstRg2 (t u : TD) : TD := fun ρ S Q => t ρ S fun x S1 => u ρ S1 fun y S2 => match x, y with
  | .int i, .int j => RgOk i j ∧ Q (.lst ((irgC i 1 (j - i).toNat).map D.int)) S2
  | _, _ => False
theorem de_listRg2 {p2 pos2 : Pos} (hc : X.calm = true) (hgl : Gl X "list") (hml : X.mg "list" = none) (hg : Gl X "range") (hm : X.mg "range" = none) (hx : DE X a tx dx) (hy : DE X b ty dy)
    (na : starEach [a, b] X.env = (false, eval a X.env) :: starEach [b] X.env := by rfl) (nb : starEach [b] X.env = (false, eval b X.env) :: starEach [] X.env := by rfl) (hp : (backTo pos (starEach [b] X.env)).any (·.1) = false := by rfl) (nc : starEach [.Call (.Name "range" p) [a, b] [] pos] X.env = (false, eval (.Call (.Name "range" p) [a, b] [] pos) X.env) :: starEach [] X.env := by rfl) :
    DE X (.Call (.Name "list" p2) [.Call (.Name "range" p) [a, b] [] pos] [] pos2) (tLstRgC fun σ H R => tRg2 tx ty σ H fun a b H1 => RgOk a b ∧ R a b 1 (b - a).toNat H1) (dLstRg2 dx dy) :=
  ⟨pe_listRgC hc hgl hml (prg_of1 (prg_2 hg hm hx.pe hy.pe na nb hp)) nc, fun σ H ρ S Q Qv w rs q k => hx.ab σ H ρ S _ _ w rs q fun v1 H1 d1 S1 r1 w1 s1 q1 => hy.ab σ H1 ρ S1 _ _ w1 (rs.mono s1) q1 fun v2 H2 d2 S2 r2 w2 s2 q2 => by
    split at q2
    · cases r1; cases r2
      exact ⟨_, _, rfl, rfl, q2.1, q2.1.2.2.2.2, listRg_k w2 (s1.trans s2) q2.2 k⟩
    · exact q2.elim⟩
def dLstRg1 (t : TD) : TD := fun ρ S Q => t ρ S fun x S1 => match x with
  | .int j => RgOk 0 j ∧ Q (.lst ((irgC 0 1 (j - 0).toNat).map D.int)) S1
  | _ => False
theorem de_listRg1 {p2 pos2 : Pos} (hc : X.calm = true) (hgl : Gl X "list") (hml : X.mg "list" = none) (hg : Gl X "range") (hm : X.mg "range" = none) (hx : DE X a tx dx)
    (na : starEach [a] X.env = (false, eval a X.env) :: starEach [] X.env := by rfl) (nc : starEach [.Call (.Name "range" p) [a] [] pos] X.env = (false, eval (.Call (.Name "range" p) [a] [] pos) X.env) :: starEach [] X.env := by rfl) :
    DE X (.Call (.Name "list" p2) [.Call (.Name "range" p) [a] [] pos] [] pos2) (tLstRgC fun σ H R => tRg1 tx σ H fun a b H1 => RgOk a b ∧ R a b 1 (b - a).toNat H1) (dLstRg1 dx) :=
  ⟨pe_listRgC hc hgl hml (prg_of1 (prg_1 hg hm hx.pe na)) nc, fun σ H ρ S Q Qv w rs q k => hx.ab σ H ρ S _ _ w rs q fun v1 H1 d1 S1 r1 w1 s1 q1 => by
    split at q1
    · cases r1
      exact ⟨_, rfl, q1.1, q1.1.2.2.2.2, listRg_k w1 s1 q1.2 k⟩
    · exact q1.elim⟩
theorem irg_irgC (lo hi : Int) : irg lo hi = irgC lo 1 (hi - lo).toNat := by unfold irg irgC; congr 1; funext i; rw [Int.mul_one]
/-- for x in range(a, b, c) -/
def dRng3 (t : TDA) : TDI := fun ρ S Q => t ρ S fun ds S1 => match ds with
  | [.int i, .int j, .int c] => ∃ n, RgC i j c n ∧ Q ((irgC i c n).map D.int) S1
  | _ => False
theorem di_rng3 {tg : Expr} {da : TDA} (hg : Gl X "range") (hm : X.mg "range" = none) (ha : DA X [a, b, c] ta da)
    (hs : starEach [a, b, c] X.env = (false, eval a X.env) :: starEach [b, c] X.env := by rfl) (hpl : (backTo pos (starEach [b, c] X.env)).any (·.1) = false := by rfl) :
    DI X tg (.Call (.Name "range" p) [a, b, c] [] pos) (iRng3 ta) (dRng3 da) :=
  ⟨pi_range3 hg hm ha.pa hs hpl, fun σ H ρ S Q R w rs q k => ha.ab σ H ρ S _ _ w rs q fun vs H1 ds S1 r1 w1 s1 q1 => by
    split at q1
    · rename_i i j c
      obtain ⟨n, ok, q1⟩ := q1
      cases r1 with
      | cons r rr => cases rr with
        | cons r' rr => cases rr with
          | cons r'' rr =>
            cases rr
            cases r; cases r'; cases r''
            refine ⟨_, _, _, n, rfl, ok, k _ _ _ _ w1 s1 (fun H2 S2 w2 s2 => ⟨fun m d hd => ?_, ?_⟩) q1⟩
            · unfold irgC at hd
              rw [List.map_map, List.getElem?_map] at hd
              cases hc : (List.range n)[m]? with
              | none => rw [hc] at hd; cases hd
              | some m' =>
                rw [hc] at hd
                obtain ⟨h1, h2⟩ := List.getElem?_eq_some_iff.mp hc
                rw [List.getElem_range] at h2
                subst h2
                rw [List.length_range] at h1
                cases hd
                refine ⟨h1, fun x H3 y => ?_⟩
                obtain ⟨rfl, rfl⟩ := y
                exact ⟨.int _, w2, Step.refl⟩
            · show n ≤ _
              rw [List.length_map, irgC_len]; exact Nat.le_refl _
    · exact q1.elim⟩
end
end DL

namespace DL
open PySem PySem.Spec PyProof.Rows L2
/-! ### == of equal data -/
mutual
theorem eqv_refl : ∀ {n : Nat} {d : D}, D.ok n d = true → D.eqv d d = true
  | _, .non, _ => by simp [D.eqv, D.toPy, PyData.eqv]
  | _, .bl b, _ => by cases b <;> simp [D.eqv, D.toPy, PyData.eqv]
  | _, .int i, _ => by simp [D.eqv, D.toPy, PyData.eqv]
  | _, .str x, _ => by simp [D.eqv, D.toPy, PyData.eqv]
  | 0, .tup _, h => by simp [D.ok] at h
  | 0, .lst _, h => by simp [D.ok] at h
  | 0, .fz _, h => by simp [D.ok] at h
  | n + 1, .tup xs, h => by
    have := eqvL_refl (n := n) (xs := xs) (by simpa [D.ok] using h)
    simpa [D.eqv, D.toPy, PyData.eqv, D.eqvL] using this
  | n + 1, .lst xs, h => by
    have := eqvL_refl (n := n) (xs := xs) (by simpa [D.ok] using h)
    simpa [D.eqv, D.toPy, PyData.eqv, D.eqvL] using this
  | n + 1, .fz xs, h => by
    have := eqvL_refl (n := n) (xs := xs) (by simpa [D.ok] using h)
    simpa [D.eqv, D.toPy, PyData.eqv, D.eqvL] using this
  | _, .ref _, h => by simp [D.ok] at h
theorem eqvL_refl : ∀ {n : Nat} {xs : List D}, D.okL n xs = true → D.eqvL xs xs = true
  | _, [], _ => by simp [D.eqvL, D.toPyL, PyData.eqvAll]
  | n, x :: xs, h => by
    have h' : D.ok n x = true ∧ D.okL n xs = true := by simpa [D.okL] using h
    have h1 := eqv_refl h'.1
    have h2 := eqvL_refl h'.2
    simp only [D.eqv, D.eqvL, D.toPyL, PyData.eqvAll] at h1 h2 ⊢
    rw [h1, h2]; rfl
end
theorem ok_ints {n : Nat} {l : List Int} : D.ok (n + 1) (.lst (l.map D.int)) = true := ok_lst.mpr fun d h => by
  obtain ⟨i, _, rfl⟩ := List.mem_map.mp h
  rfl
theorem ok_intsT {n : Nat} {l : List Int} : D.ok (n + 1) (.tup (l.map D.int)) = true := ok_tup.mpr fun d h => by
  obtain ⟨i, _, rfl⟩ := List.mem_map.mp h
  rfl
theorem ne_self {n : Nat} {d : D} (h : D.ok n d = true) : (!D.eqv d d) = false := by rw [eqv_refl h]; rfl
theorem at_irgC {lo c i : Int} {n : Nat} (h0 : 0 ≤ i) (h1 : i < n) : atI (irgC lo c n) i = some (lo + i * c) := by
  obtain ⟨m, rfl⟩ := Int.eq_ofNat_of_zero_le h0
  refine atI_nat ?_
  unfold irgC
  rw [List.getElem?_map, List.getElem?_range (by omega)]; rfl
theorem at_neg1 {α : Type} {l : List α} {x : α} (h : l[l.length - 1]? = some x) : atI l (-1) = some x := by
  have hp : 0 < l.length := by
    cases l with
    | nil => cases h
    | cons a r => exact Nat.succ_pos _
  unfold atI ixN
  rw [if_neg (by decide), if_pos (by omega), show (-1 + (l.length : Int)).toNat = l.length - 1 by omega]
  exact h
theorem at_irgC_last {lo c : Int} {n : Nat} : atI (irgC lo c (n + 1)) (-1) = some (lo + n * c) := by
  refine at_neg1 ?_
  rw [irgC_len]
  unfold irgC
  rw [List.getElem?_map, List.getElem?_range (by omega)]; rfl
theorem irgC_map {lo c a b : Int} {n : Nat} (ha : 0 ≤ n) : (irgC lo c n).map (fun t => a + b * t) = irgC (a + b * lo) (b * c) n := by
  unfold irgC
  rw [List.map_map]
  refine List.map_congr_left fun i _ => ?_
  show a + b * (lo + (i : Int) * c) = a + b * lo + (i : Int) * (b * c)
  rw [Int.mul_add, Int.add_assoc, Int.mul_left_comm]
theorem irg_snoc {lo hi : Int} (h : lo ≤ hi) : irg lo (hi + 1) = irg lo hi ++ [hi] := by
  unfold irg
  rw [show (hi + 1 - lo).toNat = (hi - lo).toNat + 1 by omega, List.range_succ, List.map_append]
  show _ ++ [lo + ((hi - lo).toNat : Int)] = _
  rw [show lo + ((hi - lo).toNat : Int) = hi by omega]
theorem irg_nil {lo hi : Int} (h : hi ≤ lo) : irg lo hi = [] := by
  unfold irg
  rw [show (hi - lo).toNat = 0 by omega]; rfl
theorem irg_cons {lo hi : Int} (h : lo < hi) : irg lo hi = lo :: irg (lo + 1) hi := by
  unfold irg
  rw [show (hi - lo).toNat = (hi - (lo + 1)).toNat + 1 by omega, List.range_succ_eq_map, List.map_cons, List.map_map]
  congr 1
  · omega
  · refine List.map_congr_left fun i _ => ?_
    show lo + ((i + 1 : Nat) : Int) = lo + 1 + (i : Int)
    omega
end DL

namespace DL
open PySem PySem.Spec PyProof.Rows L2
/-! ### isinstance of a built-in type -/
inductive BT where
  | int | bool | str | lst | tup
def BT.nm : BT → String
  | .int => "int" | .bool => "bool" | .str => "str" | .lst => "list" | .tup => "tuple"
/-- the type of data that are read -/
def dTy : D → Option String
  | .non => some "NoneType" | .bl _ => some "bool" | .int _ => some "int" | .str _ => some "str" | .tup _ => some "tuple" | .lst _ => some "list" | .fz _ => some "list" | .ref _ => none
def isiD : D → BT → Option Bool
  | .non, _ => some false
  | .bl _, .int => some true
  | .bl _, .bool => some true
  | .bl _, _ => some false
  | .int _, .int => some true
  | .int _, _ => some false
  | .str _, .str => some true
  | .str _, _ => some false
  | .tup _, .tup => some true
  | .tup _, _ => some false
  | .lst _, .lst => some true
  | .lst _, _ => some false
  | .fz _, .lst => some true
  | .fz _, _ => some false
  | .ref _, _ => none
theorem isiD_kit : ∀ {d : D} {T : BT} {t : String} {b : Bool}, dTy d = some t → isiD d T = some b → kitB t T.nm = some b := by
  intro d T t b h1 h2
  cases d <;> cases h1 <;> cases T <;> cases h2 <;> decide +kernel
section
variable {K : PySem.W.Frag} {H : Hp} {S : Sto}
theorem tyx_sqt {a : Addr} {vs : List V} (h : SqT K H a vs) : TyX K H (.ref a) (.type "tuple") := by
  rcases h with (h | ⟨o, h⟩) | ⟨o, its, n, h, hc, _⟩
  · exact .base (.tup h)
  · exact .fTuple h
  · exact .kTuple h hc
theorem tyx_sql {a : Addr} {vs : List V} (h : SqL K H a vs) : TyX K H (.ref a) (.type "list") := by
  rcases h with (h | ⟨o, h⟩) | ⟨o, its, n, h, hc, _⟩
  · exact .base (.lst h)
  · exact .base (.frz h)
  · exact .kList h hc
theorem tyx_rep {v : V} {d : D} {t : String} (r : RepR K H S v d) (h : dTy d = some t) : TyX K H v (.type t) := by
  cases d with
  | non => cases h; cases r.non; exact .base .non
  | bl b => cases h; cases r.bl; exact .base (.bl b)
  | int i => cases h; cases r.int; exact .base (.int i)
  | str x => cases h; cases r.str; exact .base (.str x)
  | tup xs => cases h; obtain ⟨a, vs, rfl, h1, _⟩ := r.tup; exact tyx_sqt h1
  | lst xs => cases h; obtain ⟨a, vs, rfl, h1, _⟩ := r.lst; exact tyx_sql (SqL.of h1)
  | fz xs => cases h; obtain ⟨a, vs, rfl, h1, _⟩ := r.fz; exact tyx_sql h1
  | ref a => cases h
theorem isiD_ty {d : D} {T : BT} {b : Bool} (h : isiD d T = some b) : ∃ t, dTy d = some t := by
  cases d with
  | ref a => cases h
  | _ => exact ⟨_, rfl⟩
end
def dIsi (T : BT) (t : TD) : TD := fun ρ S Q => t ρ S fun d S1 => PeekP S1 d fun d' => match isiD d' T with
  | some b => Q (.bl b) S1
  | none => False
def dIsi2 (T U : BT) (t : TD) : TD := fun ρ S Q => t ρ S fun d S1 => PeekP S1 d fun d' => match isiD d' T with
  | some true => (match isiD d' U with
    | some _ => Q (.bl true) S1
    | none => False)
  | some false => (match isiD d' U with
    | some c => Q (.bl c) S1
    | none => False)
  | none => False
section
variable {X : Cx} {K : PySem.W.Frag} {e : Expr} {te : TE} {t : TD} {p p1 p2 pos tpos : Pos}
theorem k_isi (T : BT) {nm : Str} (hg : Gl X "isinstance") (hm : X.mg "isinstance" = none) (he : DE X e te t) (hgt : Gl X nm) (hmt : X.mg nm = none) (hvt : bootBuiltins nm = some (.type T.nm)) (hK : X.K = K := by rfl)
    (hnt : nm ≠ "__name__" := by decide) (hdt : (nm == ("__debug__" : Str)) = false := by decide)
    (h1 : starEach [e, .Name nm p1] X.env = (false, eval e X.env) :: starEach [.Name nm p1] X.env := by rfl) (h2 : starEach [.Name nm p1] X.env = (false, eval (.Name nm p1) X.env) :: starEach [] X.env := by rfl)
    (hpl : (backTo pos (starEach [.Name nm p1] X.env)).any (·.1) = false := by rfl) :
    DE X (.Call (.Name "isinstance" p) [e, .Name nm p1] [] pos) (tCB (rIsi K) (tCons te (tCons (tC (.ty T.nm)) tNil))) (dIsi T t) := by
  subst hK
  refine ⟨pe_callB call_isi hg hm bb_isinstance (pa_cons he.pe (pa_cons (pe_bltn hgt hmt hvt rfl hnt hdt) pa_nil h2) h1) (by decide) (by decide) h1 hpl, fun σ H ρ S Q Qv w rs q k => he.ab σ H ρ S _ _ w rs q fun v H1 d S1 r w1 s1 q1 => ?_⟩
  have rr := peek_rep w1 r
  have q1 := q1.go
  generalize peek (vis S1) d = d' at rr q1
  cases hb : isiD d' T with
  | none => rw [hb] at q1; exact q1.elim
  | some b =>
    rw [hb] at q1
    obtain ⟨ty, hty⟩ := isiD_ty hb
    exact ⟨v, .ty T.nm, .type ty, .type T.nm, b, rfl, .ty _, tyx_rep rr hty, kit_ty (isiD_kit hty hb), k _ _ _ _ (.bl b) w1 s1 q1⟩
theorem k_isi2 (T U : BT) {nm nm2 : Str} {kk : Nat} (hg : Gl X "isinstance") (hm : X.mg "isinstance" = none) (he : DE X e te t) (hgt : Gl X nm) (hmt : X.mg nm = none) (hvt : bootBuiltins nm = some (.type T.nm)) (hgu : Gl X nm2) (hmu : X.mg nm2 = none) (hvu : bootBuiltins nm2 = some (.type U.nm)) (hK : X.K = K := by rfl)
    (hnt : nm ≠ "__name__" := by decide) (hdt : (nm == ("__debug__" : Str)) = false := by decide) (hnu : nm2 ≠ "__name__" := by decide) (hdu : (nm2 == ("__debug__" : Str)) = false := by decide)
    (h1 : starEach [e, .Tuple [.Name nm p1, .Name nm2 p2] kk tpos] X.env = (false, eval e X.env) :: starEach [.Tuple [.Name nm p1, .Name nm2 p2] kk tpos] X.env := by rfl) (h2 : starEach [.Tuple [.Name nm p1, .Name nm2 p2] kk tpos] X.env = (false, eval (.Tuple [.Name nm p1, .Name nm2 p2] kk tpos) X.env) :: starEach [] X.env := by rfl)
    (h3 : starEach [.Name nm p1, .Name nm2 p2] X.env = (false, eval (.Name nm p1) X.env) :: starEach [.Name nm2 p2] X.env := by rfl) (h4 : starEach [.Name nm2 p2] X.env = (false, eval (.Name nm2 p2) X.env) :: starEach [] X.env := by rfl)
    (hpl : (backTo pos (starEach [.Tuple [.Name nm p1, .Name nm2 p2] kk tpos] X.env)).any (·.1) = false := by rfl) :
    DE X (.Call (.Name "isinstance" p) [e, .Tuple [.Name nm p1, .Name nm2 p2] kk tpos] [] pos) (tCB (rIsiT K) (tCons te (tCons (tTup (tCons (tC (.ty T.nm)) (tCons (tC (.ty U.nm)) tNil))) tNil))) (dIsi2 T U t) := by
  subst hK
  refine ⟨pe_callB call_isiT hg hm bb_isinstance (pa_cons he.pe (pa_cons (pe_tup (pa_cons (pe_bltn hgt hmt hvt rfl hnt hdt) (pa_cons (pe_bltn hgu hmu hvu rfl hnu hdu) pa_nil h4) h3)) pa_nil h2) h1) (by decide) (by decide) h1 hpl,
    fun σ H ρ S Q Qv w rs q k => he.ab σ H ρ S _ _ w rs q fun v H1 d S1 r w1 s1 q1 => ?_⟩
  refine ⟨by rw [sizeLine_eq]; show 2 ≤ _; decide, fun tp htp => ?_⟩
  have st := Step.new (o := .tup [.ty T.nm, .ty U.nm]) w1 htp
  have w2 := w1.new (o := .tup [.ty T.nm, .ty U.nm]) htp
  have rr := peek_rep w2 (r.mono st)
  have q1 := q1.go
  generalize peek (vis S1) d = d' at rr q1
  cases hb : isiD d' T with
  | none => rw [hb] at q1; exact q1.elim
  | some b =>
    rw [hb] at q1
    cases hc : isiD d' U with
    | none => cases b <;> simp only [hc] at q1
    | some c =>
      have q1 : Q (.bl (b || c)) (vis S1) := by cases b <;> simp only [hc] at q1 <;> exact q1
      obtain ⟨ty, hty⟩ := isiD_ty hb
      refine ⟨v, tp, _, .type ty, [.type T.nm, .type U.nm], b || c, rfl, upd_same, .cons (.ty _) (.cons (.ty _) .nil), tyx_rep rr hty, ?_, k _ _ _ _ (.bl (b || c)) w2 (s1.trans st) q1⟩
      refine kitAny_cons (b := b) (kit_ty (isiD_kit hty hb)) (fun e => ?_) (fun e => by rw [e]; rfl)
      refine kitAny_cons (b := c) (kit_ty (isiD_kit hty hc)) (fun e2 => ?_) (fun e2 => by rw [e2, Bool.or_true])
      rw [e, e2]; rfl
end
theorem bt_int : bootBuiltins "int" = some (.type BT.int.nm) := bb_int
theorem bt_bool : bootBuiltins "bool" = some (.type BT.bool.nm) := bb_bool
theorem bt_str : bootBuiltins "str" = some (.type BT.str.nm) := bb_str
theorem bt_lst : bootBuiltins "list" = some (.type BT.lst.nm) := bb_list
theorem bt_tup : bootBuiltins "tuple" = some (.type BT.tup.nm) := bb_tuple
/-! ### l.count(x), text.count(y) -/
section
variable {X : Cx}
def rCountD (K : PySem.W.Frag) : V → List V → Hp → VK → Prop := fun x xs H Q => ∃ (a : Addr) (y : V) (d : PyData) (ds : List PyData), x = V.ref a ∧ xs = [y] ∧ Dp K H (V.ref a) (.list ds) ∧ Dp K H y d ∧
  SeqAt.shaped (.list ds) = true ∧ SeqAt.shaped d = true ∧ Q (.int (ds.countP fun z => PyData.eqv z d : Nat)) H
theorem mt_countD (hu : X.A.units + 65 < cLine) : MtR X "list.count" (rCountD X.K) := by
  intro pins s σ H x xs v us Q I rx rxs h
  obtain ⟨a, y, d, ds, rfl, rfl, hl, hy, sl, sd, q⟩ := h
  cases rx
  cases rxs with
  | cons ry rt =>
    rename_i uy ut
    cases rt
    obtain ⟨bs, r1⟩ := Dp.reads I d y uy hy ry
    have hxs : PyData.canLayAll0 ds = true := SeqAt.canLay_of_shaped sl
    have hroom : X.A.units + 1 + min (PyData.depthAll ds) d.depth < cLine := room_in_shaped sd hu
    cases hl with
    | lst hs ha =>
      obtain ⟨its, rv, ⟨⟨cls, dd, data, sls⟩, n, ho, hc, hdn, hdt⟩, hlen⟩ := I.list hs
      simp only at hc hdt
      subst hc hdt
      obtain ⟨as, h4⟩ := Dp.readsAll I ds _ its ha rv
      have hmap : its.map (SeqAt.readOf s.heap) = ds := SeqAt.readsAll_map ds its as hxs h4
      refine call_meets PySem.F.slot_list_count ⟨_, ho, rfl⟩ PySem.F.entry_list_count (PySem.F.args_list_count_2 _ _)
        (SeqAt.list_countAt a its.toArray n dd sls uy (fun u => PyData.eqv (SeqAt.readOf s.heap u) d)) ⟨ho, SeqAt.items_eqAt (vs := its.toArray) (show ReadsAll s.heap its.toArray.toList ds as from h4) r1 hxs (SeqAt.canLay_of_shaped sd) hroom, ?_⟩
      have ec : its.toArray.toList.countP (fun u => PyData.eqv (SeqAt.readOf s.heap u) d) = ds.countP fun z => PyData.eqv z d := by
        rw [← hmap, List.countP_map]; rfl
      refine ⟨.int (ds.countP fun z => PyData.eqv z d : Nat), H, I.tok _, ⟨s.toks, ?_⟩, q⟩
      show Value.int ((its.toArray.toList.countP (fun u => PyData.eqv (SeqAt.readOf s.heap u) d) : Nat) : Int) s.toks = _
      rw [ec]
end
/-- a method call with one argument: what must be seen of the text -/
structure Bm1 (X : Cx) (o : Expr) (name : Str) (apos : Pos) (e : Expr) (cpos : Pos) : Prop where
  base : attributeBase o name X.env (eval o X.env) = eval o X.env
  few : ((backTo cpos (starEach (e :: []) X.env)).all (fun x => !x.1) && (backToKw cpos (keywordEach [] X.env)).all (fun x => x.1.isSome)
      && decide ((e :: []).length + ([] : List Keyword).length + (if ([] : List Keyword).isEmpty then 0 else 1) < 30)) = true
  line : (apos.endLine == cpos.line) = true
  hs : starEach (e :: []) X.env = (false, eval e X.env) :: starEach [] X.env
  pl : (backTo cpos (starEach [] X.env)).any (·.1) = false
theorem Bm1.pe {X : Cx} {o e : Expr} {to te : TE} {name : Str} {apos cpos : Pos} {T id : String} {r : V → List V → Hp → VK → Prop} (b : Bm1 X o name apos e cpos) (pa : PlainAttrs T) (slot : Slot T name id) (hty : typeOf (.builtin id) = pure (.type "method_descriptor")) (hm : MtR X id r) (ho : PE X o to) (he : PE X e te) :
    PE X (.Call (.Attribute o name apos) [e] [] cpos) (tBM X.K T r to (tCons te tNil)) := pe_bm pa slot hty hm ho (pa_cons he pa_nil b.hs) b.base b.few b.line b.hs b.pl
theorem countP_toPy (d : D) : ∀ xs : List D, (D.toPyL xs).countP (fun z => PyData.eqv z d.toPy) = xs.countP fun z => D.eqv z d
  | [] => rfl
  | x :: xs => by
    rw [D.toPyL, List.countP_cons, List.countP_cons, countP_toPy d xs]; rfl
def countD : RD2 := fun x y S Q => match x with
  | .lst xs => (D.okL 63 xs = true ∧ D.ok 64 y = true) ∧ Q (.int (xs.countP fun z => D.eqv z y : Nat)) S
  | .fz xs => (D.okL 63 xs = true ∧ D.ok 64 y = true) ∧ Q (.int (xs.countP fun z => D.eqv z y : Nat)) S
  | _ => False
/-- a method with one argument, on a list -/
def dM1 (rd : RD2) (t u : TD) : TD := fun ρ S Q => t ρ S fun x S1 => PeekP S1 x fun x0 => (match x0 with | .lst _ => True | .fz _ => True | _ => False) ∧ u ρ S1 fun y S2 => RdP rd S2 x y Q
section
variable {X : Cx} {K : PySem.W.Frag} {o e : Expr} {to te : TE} {d1 d2 : TD} {apos pos : Pos}
theorem k_countL (hu : X.A.units + 65 < cLine) (ho : DE X o to d1) (he : DE X e te d2) (hK : X.K = K := by rfl) (b : Bm1 X o "count" apos e pos := by exact ⟨rfl, rfl, rfl, rfl, rfl⟩) :
    DE X (.Call (.Attribute o "count" apos) [e] [] pos) (tBM K "list" (rCountD K) to (tCons te tNil)) (dM1 countD d1 d2) := by
  subst hK
  refine ⟨b.pe PySem.F.plainAttrs_list PySem.F.slot_list_count PySem.F.type_list_count (mt_countD hu) ho.pe he.pe, fun σ H ρ S Q Qv w rs q k => ho.ab σ H ρ S _ _ w rs q fun v H1 x S1 r w1 s1 q1 => ?_⟩
  have rr := peek_rep w1 r
  obtain ⟨hx, q1⟩ := q1.go
  refine ⟨?_, he.ab σ H1 ρ S1 _ _ w1 (rs.mono s1) q1 fun y H2 d S2 r2 w2 s2 q2 => ?_⟩
  · generalize peek (vis S1) x = x0 at rr hx
    cases x0 with
    | lst xs => obtain ⟨a, us, rfl, h1, h2⟩ := rr.lst; exact .inl ⟨rfl, _, SqL.of h1⟩
    | fz xs => obtain ⟨a, us, rfl, h1, h2⟩ := rr.fz; exact .inl ⟨rfl, _, h1⟩
    | _ => exact hx.elim
  have ry := peek_rep w2 r2
  have rx := peek_rep w2 (r.mono s2)
  have q2 := q2.go
  generalize peek (vis S2) x = x' at rx q2
  generalize peek (vis S2) d = d' at ry q2
  have key : ∀ xs : List D, (D.okL 63 xs = true ∧ D.ok 64 d' = true) ∧ Q (.int (xs.countP fun z => D.eqv z d' : Nat)) (vis S2) → ∀ a us, v = .ref a → SqL X.K H2 a us → RepL X.K H2 S2 us xs → rCountD X.K v [y] H2 Qv := by
    intro xs q2 a us ev h1 h2
    subst ev
    have okx : D.ok 64 (.lst xs) = true := q2.1.1
    refine ⟨a, y, d'.toPy, D.toPyL xs, rfl, rfl, .lst h1 (RepL.dp h2 q2.1.1), ry.dp q2.1.2, ok_shaped okx, ok_shaped q2.1.2, ?_⟩
    rw [countP_toPy]
    exact k _ _ _ _ (.int _) w2 (s1.trans s2) q2.2
  cases x' with
  | lst xs => obtain ⟨a, us, ev, h1, h2⟩ := rx.lst; exact key xs q2 a us ev (SqL.of h1) h2
  | fz xs => obtain ⟨a, us, ev, h1, h2⟩ := rx.fz; exact key xs q2 a us ev h1 h2
  | _ => exact q2.elim
/-- text.count(y) -/
def dStr1 (g : Str → Str → D) (t u : TD) : TD := fun ρ S Q => t ρ S fun x S1 => match x with
  | .str a => u ρ S1 fun y S2 => (match y with
    | .str b => Q (g a b) S2
    | _ => False)
  | _ => False
theorem k_countS (ho : DE X o to d1) (he : DE X e te d2) (hK : X.K = K := by rfl) (b : Bm1 X o "count" apos e pos := by exact ⟨rfl, rfl, rfl, rfl, rfl⟩) :
    DE X (.Call (.Attribute o "count" apos) [e] [] pos) (tBM K "str" (fun x xs H Q => ∃ a b, x = .str a ∧ xs = [.str b] ∧ Q (.int (Txt.count a b)) H) to (tCons te tNil)) (dStr1 (fun a b => .int (Txt.count a b)) d1 d2) := by
  subst hK
  refine ⟨b.pe PySem.F.plainAttrs_str PySem.F.slot_str_count PySem.F.type_str_count mt_count ho.pe he.pe, fun σ H ρ S Q Qv w rs q k => ho.ab σ H ρ S _ _ w rs q fun v H1 x S1 r w1 s1 q1 => ?_⟩
  cases x with
  | str a =>
    cases r
    refine ⟨rfl, he.ab σ H1 ρ S1 _ _ w1 (rs.mono s1) q1 fun y H2 d S2 r2 w2 s2 q2 => ?_⟩
    cases d with
    | str b => cases r2; exact ⟨a, b, rfl, rfl, k _ _ _ _ (.int _) w2 (s1.trans s2) q2⟩
    | _ => exact q2.elim
  | _ => exact q1.elim
theorem k_app (ho : DE X o to d1) (he : DE X e te d2) (hK : X.K = K := by rfl) (b : Bm1 X o "append" apos e pos := by exact ⟨rfl, rfl, rfl, rfl, rfl⟩) :
    DE X (.Call (.Attribute o "append" apos) [e] [] pos) (tBM K "list" rAppend to (tCons te tNil)) (dApp d1 d2) := by
  subst hK; exact de_app ho he b.hs (b.pe PySem.F.plainAttrs_list PySem.F.slot_list_append PySem.F.type_list_append mt_append ho.pe he.pe)
end
end DL

namespace DL
open PySem PySem.Spec PyProof.Rows L2
/-! ### dicts that are owned -/
def kD : Key → D
  | .inl i => .int i
  | .inr x => .str x
section
variable {κ : Type} [DecidableEq κ]
def valD (kvs : List (κ × D)) (k : κ) : Option D := (kvs.find? fun kv => decide (kv.1 = k)).map (·.2)
def putD (kvs : List (κ × D)) (k : κ) (v : D) : List (κ × D) :=
  if (kvs.any fun kv => decide (kv.1 = k)) = true then kvs.map (fun kv => if kv.1 = k then (kv.1, v) else kv) else kvs ++ [(k, v)]
theorem valD_pos {p : κ × D} {r : List (κ × D)} {k : κ} (e : p.1 = k) : valD (p :: r) k = some p.2 := by simp [valD, List.find?_cons, e]
theorem valD_neg {p : κ × D} {r : List (κ × D)} {k : κ} (e : ¬ p.1 = k) : valD (p :: r) k = valD r k := by simp [valD, List.find?_cons, e]
theorem valD_any (k : κ) : ∀ kvs : List (κ × D), (kvs.any fun kv => decide (kv.1 = k)) = (valD kvs k).isSome
  | [] => rfl
  | p :: r => by
    rw [List.any_cons]
    by_cases e : p.1 = k
    · simp only [valD_pos e, decide_eq_true e, Bool.true_or, Option.isSome_some]
    · rw [valD_neg e, decide_eq_false e, Bool.false_or]; exact valD_any k r
theorem valD_map (k j : κ) (y : D) : ∀ kvs : List (κ × D), valD (kvs.map fun kv => if kv.1 = k then (kv.1, y) else kv) j = (valD kvs j).map fun x => if j = k then y else x
  | [] => rfl
  | p :: r => by
    have ih := valD_map k j y r
    rw [List.map_cons]
    by_cases h : p.1 = k
    · rw [if_pos h]
      by_cases e : p.1 = j
      · rw [valD_pos (p := (p.1, y)) e, valD_pos e, Option.map_some, if_pos (e.symm.trans h)]
      · rw [valD_neg (p := (p.1, y)) e, valD_neg e, ih]
    · rw [if_neg h]
      by_cases e : p.1 = j
      · rw [valD_pos (p := p) e, valD_pos e, Option.map_some, if_neg (fun z => h (e.trans z))]
      · rw [valD_neg (p := p) e, valD_neg e, ih]
theorem valD_snoc (k j : κ) (y : D) : ∀ kvs : List (κ × D), valD kvs k = none → valD (kvs ++ [(k, y)]) j = if j = k then some y else valD kvs j
  | [], _ => by
    by_cases e : k = j
    · rw [if_pos e.symm]; exact valD_pos (p := (k, y)) e
    · rw [if_neg (fun z => e z.symm)]; exact valD_neg (p := (k, y)) e
  | p :: r, hn => by
    rw [List.cons_append]
    have hk : ¬ p.1 = k := fun z => by rw [valD_pos z] at hn; cases hn
    rw [valD_neg hk] at hn
    have ih := valD_snoc k j y r hn
    by_cases e : p.1 = j
    · rw [valD_pos e, valD_pos e, if_neg (fun z => hk (e.trans z))]
    · rw [valD_neg e, valD_neg e, ih]
theorem valD_put (kvs : List (κ × D)) (k j : κ) (y : D) : valD (putD kvs k y) j = if j = k then some y else valD kvs j := by
  unfold putD
  by_cases h : (kvs.any fun kv => decide (kv.1 = k)) = true
  · rw [if_pos h, valD_map]
    rw [valD_any] at h
    by_cases e : j = k
    · subst e
      obtain ⟨z, hz⟩ := Option.isSome_iff_exists.mp h
      rw [hz, if_pos rfl, Option.map_some, if_pos rfl]
    · rw [if_neg e]
      cases valD kvs j with
      | none => rfl
      | some z => rw [Option.map_some, if_neg e]
  · rw [if_neg h]
    rw [valD_any] at h
    have hn : valD kvs k = none := by
      cases z : valD kvs k with
      | none => rfl
      | some u => rw [z] at h; exact absurd rfl h
    exact valD_snoc k j y kvs hn
theorem putD_len (kvs : List (κ × D)) (k : κ) (y : D) : (putD kvs k y).length ≤ kvs.length + 1 := by
  unfold putD
  split
  · rw [List.length_map]; omega
  · rw [List.length_append]; exact Nat.le_refl _
theorem putD_old {kvs : List (κ × D)} {k : κ} {y z : D} (h : valD kvs k = some z) : (putD kvs k y).length = kvs.length := by
  unfold putD
  rw [if_pos (by rw [valD_any, h]; rfl), List.length_map]
variable {K : PySem.W.Frag} {H : Hp} {S : Sto}
/-- both or none -/
def RepB (K : PySem.W.Frag) (H : Hp) (S : Sto) : Option V → Option D → Prop
  | none, none => True
  | some v, some d => Rep K H S v d
  | _, _ => False
theorem repKV_val {k : κ} : ∀ {vs : List (κ × V)} {ds : List (κ × D)}, RepKV K H S vs ds → RepB K H S (valV vs k) (valD ds k)
  | _, _, .nil => True.intro
  | _, _, .cons (a := a) (b := b) r t => by
    have ih := repKV_val (k := k) t
    by_cases e : a.1 = k
    · rw [valV_pos e, valD_pos (r.1.symm.trans e)]; exact r.2
    · rw [valV_neg e, valD_neg (fun z => e (r.1.trans z))]; exact ih
theorem repKV_any {k : κ} : ∀ {vs : List (κ × V)} {ds : List (κ × D)}, RepKV K H S vs ds → (vs.any fun kv => decide (kv.1 = k)) = ds.any fun kv => decide (kv.1 = k)
  | _, _, .nil => rfl
  | _, _, .cons (a := a) (b := b) r t => by rw [List.any_cons, List.any_cons, repKV_any t, r.1]
theorem repKV_map {k : κ} {v : V} {d : D} (rv : Rep K H S v d) : ∀ {vs : List (κ × V)} {ds : List (κ × D)}, RepKV K H S vs ds → RepKV K H S (vs.map fun kv => if kv.1 = k then (kv.1, v) else kv) (ds.map fun kv => if kv.1 = k then (kv.1, d) else kv)
  | _, _, .nil => .nil
  | _, _, .cons (a := a) (b := b) r t => by
    rw [List.map_cons, List.map_cons]
    refine .cons ?_ (repKV_map rv t)
    by_cases e : a.1 = k
    · rw [if_pos e, if_pos (r.1.symm.trans e)]; exact ⟨r.1, rv⟩
    · rw [if_neg e, if_neg (fun z => e (r.1.trans z))]; exact r
theorem repKV_snoc {k : κ} {v : V} {d : D} (rv : Rep K H S v d) : ∀ {vs : List (κ × V)} {ds : List (κ × D)}, RepKV K H S vs ds → RepKV K H S (vs ++ [(k, v)]) (ds ++ [(k, d)])
  | _, _, .nil => .cons ⟨rfl, rv⟩ .nil
  | _, _, .cons r t => .cons r (repKV_snoc rv t)
theorem repKV_put {k : κ} {v : V} {d : D} (rv : Rep K H S v d) {vs : List (κ × V)} {ds : List (κ × D)} (r : RepKV K H S vs ds) : RepKV K H S (putK vs k v) (putD ds k d) := by
  unfold putK putD
  rw [repKV_any r]
  split
  · exact repKV_map rv r
  · exact repKV_snoc rv r
theorem repKV_len : ∀ {vs : List (κ × V)} {ds : List (κ × D)}, RepKV K H S vs ds → vs.length = ds.length
  | _, _, .nil => rfl
  | _, _, .cons _ t => by rw [List.length_cons, List.length_cons, repKV_len t]
end
section
variable {K : PySem.W.Frag} {H : Hp} {S : Sto}
theorem rep_key {v : V} {k : Key} (r : Rep K H S v (kD k)) : v = kV k := by
  cases k with
  | inl i => cases r; rfl
  | inr x => cases r; rfl
theorem repL_keys : ∀ {vs : List V} {ks : List Key}, RepL K H S vs (ks.map kD) → vs = ks.map kV
  | _, [], .nil => rfl
  | _, k :: ks, r => by
    rw [List.map_cons] at r
    cases r with
    | cons r t => rw [rep_key r, repL_keys t]; rfl
theorem rep_tupkey {v : V} {ks : List Key} (r : Rep K H S v (.tup (ks.map kD))) : ∃ b, v = .ref b ∧ H b = some (.tup (ks.map kV)) := by
  cases r with
  | tup h n rl => exact ⟨_, rfl, by rw [← repL_keys rl]; exact h⟩
end
/-- what stands in the dict x at the key y -/
structure LookP (S : Sto) (x y : D) (Q : Option D → Prop) : Prop where
  get : ∃ a, x = .ref a ∧ ((∃ kvs k, S a = some (.dK kvs) ∧ y = kD k ∧ Q (valD kvs k)) ∨ ∃ kvs ks, S a = some (.dT kvs) ∧ y = .tup (ks.map kD) ∧ Q (valD kvs ks))
theorem LookP.s {S : Sto} {a : Addr} {kvs : List (Key × D)} {x : Str} {Q : Option D → Prop} {o : Option D} (h : S a = some (.dK kvs)) (e : valD kvs (.inr x) = o) (q : Q o) : LookP S (.ref a) (.str x) Q := ⟨a, rfl, .inl ⟨kvs, .inr x, h, rfl, by rw [e]; exact q⟩⟩
theorem LookP.i {S : Sto} {a : Addr} {kvs : List (Key × D)} {x : Int} {Q : Option D → Prop} {o : Option D} (h : S a = some (.dK kvs)) (e : valD kvs (.inl x) = o) (q : Q o) : LookP S (.ref a) (.int x) Q := ⟨a, rfl, .inl ⟨kvs, .inl x, h, rfl, by rw [e]; exact q⟩⟩
theorem LookP.t {S : Sto} {a : Addr} {kvs : List (List Key × D)} {ks : List Key} {ds : List D} {Q : Option D → Prop} {o : Option D} (h : S a = some (.dT kvs)) (ed : ks.map kD = ds) (e : valD kvs ks = o) (q : Q o) : LookP S (.ref a) (.tup ds) Q := ⟨a, rfl, .inr ⟨kvs, ks, h, by rw [ed], by rw [e]; exact q⟩⟩
/-- x[y] = v -/
structure PutP (S : Sto) (x y v : D) (Q : Sto → Prop) : Prop where
  get : ∃ a, x = .ref a ∧ ((∃ kvs k, S a = some (.dK kvs) ∧ y = kD k ∧ SzOk (kvs.length + 1) ∧ Q (updS S a (.dK (putD kvs k v)))) ∨ ∃ kvs ks, S a = some (.dT kvs) ∧ y = .tup (ks.map kD) ∧ SzOk (kvs.length + 1) ∧ Q (updS S a (.dT (putD kvs ks v))))
theorem PutP.s {S : Sto} {a : Addr} {kvs kvs' : List (Key × D)} {x : Str} {v : D} {Q : Sto → Prop} (h : S a = some (.dK kvs)) (e : putD kvs (.inr x) v = kvs') (z : SzOk (kvs.length + 1)) (q : Q (updS S a (.dK kvs'))) : PutP S (.ref a) (.str x) v Q := ⟨a, rfl, .inl ⟨kvs, .inr x, h, rfl, z, by rw [e]; exact q⟩⟩
theorem PutP.i {S : Sto} {a : Addr} {kvs kvs' : List (Key × D)} {x : Int} {v : D} {Q : Sto → Prop} (h : S a = some (.dK kvs)) (e : putD kvs (.inl x) v = kvs') (z : SzOk (kvs.length + 1)) (q : Q (updS S a (.dK kvs'))) : PutP S (.ref a) (.int x) v Q := ⟨a, rfl, .inl ⟨kvs, .inl x, h, rfl, z, by rw [e]; exact q⟩⟩
theorem PutP.t {S : Sto} {a : Addr} {kvs kvs' : List (List Key × D)} {ks : List Key} {ds : List D} {v : D} {Q : Sto → Prop} (h : S a = some (.dT kvs)) (ed : ks.map kD = ds) (e : putD kvs ks v = kvs') (z : SzOk (kvs.length + 1)) (q : Q (updS S a (.dT kvs'))) : PutP S (.ref a) (.tup ds) v Q := ⟨a, rfl, .inr ⟨kvs, ks, h, by rw [ed], z, by rw [e]; exact q⟩⟩
section
variable {K : PySem.W.Frag} {H : Hp} {S : Sto} {x y v : V} {dx dy dv : D}
theorem look_get (w : Wd K H S) (rx : Rep K H S x dx) (ry : Rep K H S y dy) {Q : Option D → Prop} (q : LookP (vis S) dx dy Q) : ∃ a o od, x = .ref a ∧ dx = .ref a ∧ DGet H a y o ∧ RepB K H S o od ∧ Q od ∧ (∃ m, vis S a = some m) ∧ IsD H a := by
  obtain ⟨a, rfl, ⟨kvs, k, h, rfl, qq⟩ | ⟨kvs, ks, h, rfl, qq⟩⟩ := q.get
  · cases rx
    obtain ⟨vs, e, r⟩ := w a _ (vis_of h).1
    rw [rep_key ry]
    exact ⟨a, _, _, rfl, rfl, DGet.k e, repKV_val r, qq, ⟨_, h⟩, .inl ⟨_, .inl e⟩⟩
  · cases rx
    obtain ⟨vs, e, r⟩ := w a _ (vis_of h).1
    obtain ⟨b, rfl, eb⟩ := rep_tupkey ry
    exact ⟨a, _, _, rfl, rfl, DGet.t e eb, repKV_val r, qq, ⟨_, h⟩, .inr ⟨_, .inl e⟩⟩
theorem put_get (w : Wd K H S) (rx : Rep K H S x dx) (ry : Rep K H S y dy) (rv : Rep K H S v dv) {Q : Sto → Prop} (q : PutP (vis S) dx dy dv Q) : ∃ a H' S', x = .ref a ∧ DPut H a y v H' ∧ Wd K H' S' ∧ Step H S H' S' ∧ Q (vis S') := by
  obtain ⟨a, rfl, ⟨kvs, k, h, rfl, z, q⟩ | ⟨kvs, ks, h, rfl, z, q⟩⟩ := q.get
  · cases rx
    obtain ⟨vs, e, r⟩ := w a _ (vis_of h).1
    rw [rep_key ry]
    have st := Step.chg (H := H) (o := .dK (putK vs k v)) (m := .dK (putD kvs k dv)) (vis_of h).1 (vis_of h).2
    refine ⟨a, _, updS S a (.dK (putD kvs k dv)), rfl, DPut.k e (by have := repKV_len r; have := z.le; omega), w.chg (vis_of h).1 (vis_of h).2 ⟨_, upd_same, RepKV.monoK st.keep (repKV_put rv r)⟩, st, ?_⟩
    rw [vis_upd (fun z => by cases z)]
    exact q
  · cases rx
    obtain ⟨vs, e, r⟩ := w a _ (vis_of h).1
    obtain ⟨b, rfl, eb⟩ := rep_tupkey ry
    have st := Step.chg (H := H) (o := .dT (putK vs ks v)) (m := .dT (putD kvs ks dv)) (vis_of h).1 (vis_of h).2
    refine ⟨a, _, updS S a (.dT (putD kvs ks dv)), rfl, DPut.t e eb (by have := repKV_len r; have := z.le; omega), w.chg (vis_of h).1 (vis_of h).2 ⟨_, upd_same, RepKV.monoK st.keep (repKV_put rv r)⟩, st, ?_⟩
    rw [vis_upd (fun z => by cases z)]
    exact q
end
def dDGet (td ty : TD) : TD := fun ρ S Q => td ρ S fun x S1 => ty ρ S1 fun y S2 => LookP S2 x y fun o => TheItem o fun v => Q v S2
def dDIn (ty td : TD) : TD := fun ρ S Q => ty ρ S fun y S1 => td ρ S1 fun x S2 => LookP S2 x y fun o => Q (.bl o.isSome) S2
def dDNotIn (ty td : TD) : TD := fun ρ S Q => ty ρ S fun y S1 => td ρ S1 fun x S2 => LookP S2 x y fun o => Q (.bl (!o.isSome)) S2
def dDGet2 (td ty tz : TD) : TD := fun ρ S Q => td ρ S fun x S1 => IsDct S1 x fun _ => ty ρ S1 fun y S2 => tz ρ S2 fun z S3 => LookP S3 x y fun o => Q (o.getD z) S3
where IsDct (S : Sto) (x : D) (k : Unit → Prop) : Prop := ∃ a, x = .ref a ∧ ((∃ kvs, S a = some (.dK kvs)) ∨ ∃ kvs, S a = some (.dT kvs)) ∧ k ()
def dDPut (tv td ty : TD) : TDS := fun E ρ S => tv ρ S fun v S1 => td ρ S1 fun x S2 => ty ρ S2 fun y S3 => PutP S3 x y v fun S4 => E.nx ρ S4
def dNewK : TD := fun _ S Q => ∀ p, S p = none → Q (.ref p) (updS S p (.dK []))
def dNewT : TD := fun _ S Q => ∀ p, S p = none → Q (.ref p) (updS S p (.dT []))
section
variable {X : Cx} {o i e f value : Expr} {pos pos' tpos apos : Pos} {td ty tv tz : TE} {d dy dv dz : TD}
theorem de_dget (hu : X.A.units + 1 < cLine) (ho : DE X o td d) (hi : DE X i ty dy) (hs : NoSl i := by intro _ _; rfl) : DE X (.Subscript o i pos) (tDGet td ty) (dDGet d dy) :=
  ⟨pe_dget hu ho.pe hi.pe hs, fun σ H ρ S Q Qv w rs q k => ho.ab σ H ρ S _ _ w rs q fun x H1 dx S1 r1 w1 s1 q1 => hi.ab σ H1 ρ S1 _ _ w1 (rs.mono s1) q1 fun y H2 dy S2 r2 w2 s2 q2 => by
    obtain ⟨a, ov, od, rfl, rfl, g, ro, q2, _, _⟩ := look_get w2 (r1.mono s2) r2 q2
    obtain ⟨v, rfl, q3⟩ := TheItem.get q2
    cases ov with
    | none => exact ro.elim
    | some u => exact ⟨a, u, rfl, g, k _ _ _ _ ro w2 (s1.trans s2) q3⟩⟩
theorem de_din (hu : X.A.units + 1 < cLine) (hi : DE X i ty dy) (ho : DE X o td d) (hmk : behindInMarks .In o = false := by rfl) : DE X (.Compare i [.In] [o] pos) (tDIn ty td) (dDIn dy d) :=
  ⟨pe_cmp (pc_din hu hi.pe ho.pe) hmk, fun σ H ρ S Q Qv w rs q k => hi.ab σ H ρ S _ _ w rs q fun y H1 dy S1 r1 w1 s1 q1 => ho.ab σ H1 ρ S1 _ _ w1 (rs.mono s1) q1 fun x H2 dx S2 r2 w2 s2 q2 => by
    obtain ⟨a, ov, od, rfl, rfl, g, ro, q2, _, _⟩ := look_get w2 r2 (r1.mono s2) q2
    refine ⟨a, ov, rfl, g, k _ _ _ _ (.bl _) w2 (s1.trans s2) ?_⟩
    cases ov with
    | none => cases od with
      | none => exact q2
      | some u => exact ro.elim
    | some u => cases od with
      | none => exact ro.elim
      | some u => exact q2⟩
theorem de_dnotin (hu : X.A.units + 1 < cLine) (hi : DE X i ty dy) (ho : DE X o td d) (hmk : behindInMarks .NotIn o = false := by rfl) : DE X (.Compare i [.NotIn] [o] pos) (tDNotIn ty td) (dDNotIn dy d) :=
  ⟨pe_cmp (pc_dnotin hu hi.pe ho.pe) hmk, fun σ H ρ S Q Qv w rs q k => hi.ab σ H ρ S _ _ w rs q fun y H1 dy S1 r1 w1 s1 q1 => ho.ab σ H1 ρ S1 _ _ w1 (rs.mono s1) q1 fun x H2 dx S2 r2 w2 s2 q2 => by
    obtain ⟨a, ov, od, rfl, rfl, g, ro, q2, _, _⟩ := look_get w2 r2 (r1.mono s2) q2
    refine ⟨a, ov, rfl, g, k _ _ _ _ (.bl _) w2 (s1.trans s2) ?_⟩
    cases ov with
    | none => cases od with
      | none => exact q2
      | some u => exact ro.elim
    | some u => cases od with
      | none => exact ro.elim
      | some u => exact q2⟩
theorem dt_din (hu : X.A.units + 1 < cLine) (hi : DE X i ty dy) (ho : DE X o td d) (hmk : behindInMarks .In o = false := by rfl) : DT X (.Compare i [.In] [o] pos) (tTest (tDIn ty td)) (dTest (dDIn dy d)) :=
  ⟨pt_cmp (pc_din hu hi.pe ho.pe) hmk, ab_test (de_din (pos := pos) hu hi ho hmk).ab⟩
theorem dt_dnotin (hu : X.A.units + 1 < cLine) (hi : DE X i ty dy) (ho : DE X o td d) (hmk : behindInMarks .NotIn o = false := by rfl) : DT X (.Compare i [.NotIn] [o] pos) (tTest (tDNotIn ty td)) (dTest (dDNotIn dy d)) :=
  ⟨pt_cmp (pc_dnotin hu hi.pe ho.pe) hmk, ab_test (de_dnotin (pos := pos) hu hi ho hmk).ab⟩
theorem de_dget2 (hu : X.A.units + 1 < cLine) (ho : DE X o td d) (he : DE X e ty dy) (hf : DE X f tz dz) (m : M2 X o "get" apos e f pos := by exact ⟨rfl, rfl, rfl, rfl⟩) : DE X (.Call (.Attribute o "get" apos) [e, f] [] pos) (tDGet2 td ty tz) (dDGet2 d dy dz) :=
  ⟨pe_dget2 hu ho.pe he.pe hf.pe m, fun σ H ρ S Q Qv w rs q k => ho.ab σ H ρ S _ _ w rs q fun x H1 dx S1 r1 w1 s1 q1 => by
    obtain ⟨a, rfl, hd, q1⟩ := q1
    have r1' := r1
    cases r1
    refine ⟨a, rfl, ?_, he.ab σ H1 ρ S1 _ _ w1 (rs.mono s1) q1 fun y H2 dy S2 r2 w2 s2 q2 => hf.ab σ H2 ρ S2 _ _ w2 (rs.mono (s1.trans s2)) q2 fun z H3 dz S3 r3 w3 s3 q3 => ?_⟩
    · rcases hd with ⟨kvs, h⟩ | ⟨kvs, h⟩
      · obtain ⟨vs, e, _⟩ := w1 a _ (vis_of h).1; exact .inl ⟨_, .inl e⟩
      · obtain ⟨vs, e, _⟩ := w1 a _ (vis_of h).1; exact .inr ⟨_, .inl e⟩
    · obtain ⟨a', ov, od, e1, e2, g, ro, q4, _, _⟩ := look_get w3 (.ref a) (r2.mono s3) q3
      cases e2
      refine ⟨ov, g, ?_⟩
      cases ov with
      | none => cases od with
        | none => exact k _ _ _ _ r3 w3 ((s1.trans s2).trans s3) q4
        | some u => exact ro.elim
      | some u => cases od with
        | none => exact ro.elim
        | some u' => exact k _ _ _ _ ro w3 ((s1.trans s2).trans s3) q4⟩
theorem ds_dput (hu : X.A.units + 1 < cLine) (hv : DE X value tv dv) (ho : DE X o td d) (hi : DE X i ty dy) (hs : swapsWith value (some (.Subscript o i pos')) pos.line X.env = pure false := by rfl) :
    DS X (.Assign [.Subscript o i pos'] value pos) (sDPut td ty tv) (dDPut dv d dy) :=
  ⟨ps_dput hu ho.pe hi.pe hv.pe hs, fun σ H ρ S D E w rs q c => hv.ab σ H ρ S _ _ w rs q fun v H1 dv S1 r1 w1 s1 q1 => ho.ab σ H1 ρ S1 _ _ w1 (rs.mono s1) q1 fun x H2 dx S2 r2 w2 s2 q2 => hi.ab σ H2 ρ S2 _ _ w2 (rs.mono (s1.trans s2)) q2 fun y H3 dy S3 r3 w3 s3 q3 => by
    obtain ⟨a, H4, S4, rfl, g, w4, s4, q4⟩ := put_get w3 (r2.mono s3) r3 (r1.mono (s2.trans s3)) q3
    have st := ((s1.trans s2).trans s3).trans s4
    exact ⟨a, H4, rfl, g, c.nx _ _ _ _ (rs.mono st) w4 st q4⟩⟩
theorem de_newK : DE X (.Dict [] [] pos) tDNewK dNewK := ⟨pe_dnewK, fun σ H ρ S Q Qv w rs q k p hp => k _ _ _ _ (.ref p) (w.newS (m := .dK []) hp ⟨[], upd_same, .nil⟩) (Step.newS w hp) (by rw [vis_upd (by intro z; cases z)]; exact q p (vis_none (w.free hp)))⟩
theorem de_newT : DE X (.Dict [] [] pos) tDNewT dNewT := ⟨pe_dnewT, fun σ H ρ S Q Qv w rs q k p hp => k _ _ _ _ (.ref p) (w.newS (m := .dT []) hp ⟨[], upd_same, .nil⟩) (Step.newS w hp) (by rw [vis_upd (by intro z; cases z)]; exact q p (vis_none (w.free hp)))⟩
end
/-! ### displays with keys -/
abbrev TDP := DSt → Sto → (List (D × D) → Sto → Prop) → Prop
def dpNil : TDP := fun _ S Q => Q [] S
def dpCons (tk tv : TD) (r : TDP) : TDP := fun ρ S Q => tk ρ S fun x S1 => tv ρ S1 fun y S2 => r ρ S2 fun ps S3 => Q ((x, y) :: ps) S3
structure DP (X : Cx) (pos : Pos) (keys : List (Option Expr)) (values : List Expr) (trs : List (TE × TE)) (td : TDP) : Prop where
  pp : PPs X pos keys values trs
  ab : ∀ (σ : L2.St) (H : Hp) (ρ : DSt) (S : Sto) (Q : List (D × D) → Sto → Prop) (Qv : List (V × V) → Hp → Prop), Wd X.K H S → RepSt X.K H S σ ρ → td ρ (vis S) Q →
    (∀ vs H' ds S', Paired (fun (p : V × V) (q : D × D) => Rep X.K H' S' p.1 q.1 ∧ Rep X.K H' S' p.2 q.2) vs ds → Wd X.K H' S' → Step H S H' S' → Q ds (vis S') → Qv vs H') → tPairs trs σ H Qv
section
variable {X : Cx} {pos : Pos} {keys : List (Option Expr)} {values : List Expr} {trs : List (TE × TE)} {td : TDP} {k v : Expr} {tk tv : TE} {dk dv : TD}
theorem dp_nil : DP X pos [] [] [] dpNil := ⟨pps_nil, fun σ H ρ S Q Qv w rs q k => k _ _ _ _ .nil w Step.refl q⟩
theorem dp_cons (hk : DE X k tk dk) (hv : DE X v tv dv) (hr : DP X pos keys values trs td) : DP X pos (some k :: keys) (v :: values) ((tk, tv) :: trs) (dpCons dk dv td) :=
  ⟨pps_cons hk.pe hv.pe hr.pp, fun σ H ρ S Q Qv w rs q k => hk.ab σ H ρ S _ _ w rs q fun x H1 dx S1 r1 w1 s1 q1 => hv.ab σ H1 ρ S1 _ _ w1 (rs.mono s1) q1 fun y H2 dy S2 r2 w2 s2 q2 =>
    hr.ab σ H2 ρ S2 _ _ w2 (rs.mono (s1.trans s2)) q2 fun vs H3 ds S3 r3 w3 s3 q3 => k _ _ _ _ (.cons ⟨r1.mono (s2.trans s3), r2.mono s3⟩ r3) w3 ((s1.trans s2).trans s3) q3⟩
def mergeD (kvs more : List (Key × D)) : List (Key × D) := more.foldl (fun acc kv => putD acc kv.1 kv.2) kvs
theorem repKV_merge {K : PySem.W.Frag} {H : Hp} {S : Sto} : ∀ {ms : List (Key × V)} {ds : List (Key × D)} {vs : List (Key × V)} {es : List (Key × D)}, RepKV K H S ms ds → RepKV K H S vs es → RepKV K H S (mergeK vs ms) (mergeD es ds)
  | _, _, _, _, .nil, r => r
  | _, _, _, _, .cons (a := a) (b := b) h t, r => repKV_merge (vs := putK _ a.1 a.2) (es := putD _ b.1 b.2) t (by rw [← h.1]; exact repKV_put h.2 r)
theorem pairs_rep {K : PySem.W.Frag} {H : Hp} {S : Sto} : ∀ {vs : List (V × V)} {ks : List (Key × D)}, Paired (fun (p : V × V) (q : D × D) => Rep K H S p.1 q.1 ∧ Rep K H S p.2 q.2) vs (ks.map fun kv => (kD kv.1, kv.2)) → ∃ ms : List (Key × V), vs = ms.map (fun kv => (kV kv.1, kv.2)) ∧ RepKV K H S ms ks
  | _, [], .nil => ⟨[], rfl, .nil⟩
  | _, kv :: ks, h => by
    rw [List.map_cons] at h
    cases h with
    | @cons a b as bs h t =>
      obtain ⟨ms, e, r⟩ := pairs_rep t
      refine ⟨(kv.1, a.2) :: ms, ?_, .cons ⟨rfl, h.2⟩ r⟩
      rw [List.map_cons, e, ← rep_key h.1]
/-- the pairs' keys are ints and texts -/
structure KeyPs (ps : List (D × D)) (Q : List (Key × D) → Prop) : Prop where
  get : ∃ kvs : List (Key × D), ps = kvs.map (fun kv => (kD kv.1, kv.2)) ∧ kvs.length ≤ 15 ∧ Q kvs
def dDisp (dp : TDP) : TD := fun ρ S Q => ∀ p, S p = none → dp ρ (updS S p (.dK [])) fun ps S2 => S2 p = some (.dK []) ∧ KeyPs ps fun kvs => Q (.ref p) (updS S2 p (.dK (mergeD [] kvs)))
theorem de_disp (h : DP X pos keys values trs td) (hall : keys.all (·.isSome) = true := by rfl) (hl : keys.length = values.length := by rfl) (h0 : keys ≠ [] := by intro z; cases z) (h15 : keys.length ≤ 15 := by decide) : DE X (.Dict keys values pos) (tDisp trs) (dDisp td) :=
  ⟨pe_disp h.pp hall hl h0 h15, fun σ H ρ S Q Qv w rs q k p hp => by
    have st := Step.newS (o := .dK []) (m := .dK []) w hp
    have w0 := w.newS (o := .dK []) (m := .dK []) hp ⟨[], upd_same, .nil⟩
    have q := q p (vis_none (w.free hp))
    rw [← vis_upd (by intro z; cases z)] at q
    refine h.ab σ _ ρ _ _ _ w0 (rs.mono st) q fun vs H2 ds S2 r2 w2 s2 q2 => ?_
    obtain ⟨h2, q2⟩ := q2
    obtain ⟨kvs, rfl, hl, q2⟩ := q2.get
    obtain ⟨ms, rfl, r3⟩ := pairs_rep r2
    obtain ⟨vs0, e0, r0⟩ := w2 p _ (vis_of h2).1
    cases r0
    refine ⟨e0, ms, rfl, by rw [repKV_len r3]; exact hl, ?_⟩
    have st3 := Step.chg (H := H2) (o := .dK (mergeK [] ms)) (m := .dK (mergeD [] kvs)) (vis_of h2).1 (vis_of h2).2
    refine k _ _ _ _ (.ref p) (w2.chg (m := .dK (mergeD [] kvs)) (vis_of h2).1 (vis_of h2).2 ⟨_, upd_same, RepKV.monoK st3.keep (repKV_merge r3 .nil)⟩) ((st.trans s2).trans st3) ?_
    rw [vis_upd (by intro z; cases z)]
    exact q2⟩
end
end DL

namespace DL
open PySem PySem.Spec PyProof.Rows L2
/-! ### texts of A and B -/
def cpS (b : Bool) : Nat := if b then 65 else 66
def tx (w : List Bool) : Str := ⟨(w.map cpS).toArray⟩
theorem sd_cp (b : Bool) : (⟨#[cpS b]⟩ : Str) = sd b := by cases b <;> decide +kernel
theorem sdA : ("A" : Str) = sd true := rfl
theorem sdB : ("B" : Str) = sd false := rfl
theorem tx_nil : tx [] = ("" : Str) := by decide +kernel
theorem tx_list (w : List Bool) : (tx w).cps.toList = w.map cpS := rfl
theorem tx_len (w : List Bool) : (tx w).length = w.length := by
  show (w.map cpS).toArray.size = _
  rw [List.size_toArray, List.length_map]
theorem tx_app (u w : List Bool) : tx u ++ tx w = tx (u ++ w) := by
  show (⟨(tx u).cps ++ (tx w).cps⟩ : Str) = _
  unfold tx
  rw [List.map_append, List.append_toArray]
theorem tx_one (b : Bool) : sd b = tx [b] := (sd_cp b).symm
theorem tx_snoc (w : List Bool) (b : Bool) : tx w ++ sd b = tx (w ++ [b]) := by rw [tx_one, tx_app]
theorem cpS_inj {a b : Bool} (h : cpS a = cpS b) : a = b := by cases a <;> cases b <;> first | rfl | cases h
theorem tx_inj {u w : List Bool} (h : tx u = tx w) : u = w := by
  have e : u.map cpS = w.map cpS := congrArg (fun s : Str => s.cps.toList) h
  exact List.map_inj_right (fun _ _ => cpS_inj) |>.mp e
theorem sd_inj {a b : Bool} (h : sd a = sd b) : a = b := by
  rw [tx_one, tx_one] at h
  exact List.singleton_inj.mp (tx_inj h)
theorem tx_empty {w : List Bool} : (tx w = ("" : Str)) ↔ w = [] := by
  rw [← tx_nil]
  exact ⟨fun h => tx_inj h, fun h => by rw [h]⟩
/-- an item of a text -/
theorem tx_at {w : List Bool} {i : Int} {b : Bool} (h : atI w i = some b) : atI (tx w).cps.toList i = some (cpS b) := by rw [tx_list]; exact at_map h
theorem tx_last {w : List Bool} (h : w ≠ []) : ∃ b, atI (tx w).cps.toList (-1) = some (cpS b) := by
  have hp : 0 < w.length := List.length_pos_iff.mpr h
  refine ⟨w[w.length - 1], tx_at (at_neg1 (List.getElem?_eq_getElem (by omega)))⟩
theorem cutS_tx (w : List Bool) (lo hi : Option Int) : cutS (tx w) lo hi = tx (cutL w lo hi) := by
  unfold cutS cutL
  rw [tx_len, tx_list, ← List.map_drop, ← List.map_take]
  rfl
theorem cutL_to {α : Type} (l : List α) {i : Int} (h : 0 ≤ i) : cutL l none (some i) = l.take i.toNat := by
  obtain ⟨n, rfl⟩ := Int.eq_ofNat_of_zero_le h
  unfold cutL
  rw [HT.sIx_nat, HT.sIx_none, List.drop_zero, Nat.sub_zero]
  show l.take (min n l.length) = l.take n
  by_cases e : n ≤ l.length
  · rw [Nat.min_eq_left e]
  · rw [Nat.min_eq_right (by omega), List.take_of_length_le (Nat.le_refl _), List.take_of_length_le (by omega)]
theorem cutL_from {α : Type} (l : List α) {i : Int} (h : 0 ≤ i) : cutL l (some i) none = l.drop i.toNat := by
  obtain ⟨n, rfl⟩ := Int.eq_ofNat_of_zero_le h
  unfold cutL
  rw [HT.sIx_nat, HT.sIx_none]
  show (l.drop (min n l.length)).take (l.length - min n l.length) = l.drop n
  by_cases e : n ≤ l.length
  · rw [Nat.min_eq_left e]; exact List.take_of_length_le (by rw [List.length_drop]; exact Nat.le_refl _)
  · rw [Nat.min_eq_right (by omega), List.drop_of_length_le (Nat.le_refl _), List.drop_of_length_le (by omega)]; exact List.take_nil
/-- the signs of a text, by turns -/
theorem tx_get {w : List Bool} {i c : Nat} (h : (tx w).cps.toList[i]? = some c) : ∃ b, w[i]? = some b ∧ c = cpS b := by
  rw [tx_list, List.getElem?_map] at h
  cases e : w[i]? with
  | none => rw [e] at h; cases h
  | some b => rw [e] at h; cases h; exact ⟨b, rfl, rfl⟩
theorem tx_size (w : List Bool) : (tx w).cps.size = w.length := tx_len w
theorem cnt_cpS (b : Bool) : ∀ w : List Bool, (w.map cpS).countP (fun c => c == cpS b) = w.count b
  | [] => rfl
  | x :: w => by
    rw [List.map_cons, List.countP_cons, List.count_cons, cnt_cpS b w]
    cases x <;> cases b <;> rfl
theorem tx_cnt (b : Bool) : ∀ w : List Bool, cnt (cpS b) (w.map cpS) = w.count b
  | [] => rfl
  | x :: w => by
    rw [List.map_cons, cnt_cons, tx_cnt b w, List.count_cons]
    have e : (cpS x = cpS b) ↔ x = b := ⟨cpS_inj, fun h => by rw [h]⟩
    by_cases h : x = b
    · rw [if_pos (e.mpr h), if_pos (beq_iff_eq.mpr h)]; omega
    · rw [if_neg (fun z => h (e.mp z)), if_neg (fun z => h (beq_iff_eq.mp z))]; omega
theorem tx_count (w : List Bool) (b : Bool) : Txt.count (tx w) (sd b) = w.count b := by
  rw [← sd_cp, count_cnt, tx_list]; exact tx_cnt b w
/-- a text's loop -/
theorem for_tx {t : TD} {g : TDG} {tb : TDS} {E : DEnds} {ρ : DSt} {S : Sto} {w : List Bool} (ht : ∀ Q : DQ, Q (.str (tx w)) S → t ρ S Q) (W : Nat → DSt → Sto → Prop) (h0 : W 0 ρ S)
    (hs : ∀ (i : Nat) (b : Bool) ρ' S', w[i]? = some b → W i ρ' S' → g (.str (sd b)) ρ' S' fun ρ2 S2 => tb { E with nx := W (i + 1), ct := W (i + 1), bk := E.nx } ρ2 S2) (hd : ∀ ρ' S', W w.length ρ' S' → E.nx ρ' S') : dFor (dItS t) g tb E ρ S :=
  for_str ht W h0 (fun i c ρ' S' hc hw => by
    obtain ⟨b, hb, rfl⟩ := tx_get hc
    rw [sd_cp]
    exact hs i b ρ' S' hb hw) (fun ρ' S' hw => hd ρ' S' (by rw [tx_size] at hw; exact hw))
/-! ### a def that is called by itself -/
theorem FnD.never {P : Program} {w : World} {K : PySem.W.Frag} {mg : Str → Option Value} {base : Heap} {x : Str} {st : Stmt} {N ps : List Str} (F : FunD K mg x st ps) (Sc : FnScope N ps (defScope st)) : FnD P w K mg base 1 x (fun _ _ _ => False) :=
  okF (k := 0) F Sc (fun _ _ _ h => h.elim) fun _ _ _ _ _ _ _ _ => ⟨_, _, dss_never, fun _ _ _ h => h.elim⟩
/-! ### like -/
def likeOk : Nat → D → Bool
  | 0, _ => false
  | _ + 1, .non => true
  | _ + 1, .bl _ => true
  | _ + 1, .int _ => true
  | _ + 1, .str _ => true
  | n + 1, .tup xs => decide (xs.length ≤ 4096) && xs.all (likeOk n)
  | n + 1, .lst xs => decide (xs.length ≤ 4096) && xs.all (likeOk n)
  | _ + 1, _ => false
def sp_like (n : Nat) : DSp := fun ds S Q => ∃ d, ds = [d, d] ∧ likeOk n d = true ∧ Q (.bl true) S
theorem likeOk_tup {n : Nat} {xs : List D} (h : likeOk (n + 1) (.tup xs) = true) : xs.length ≤ 4096 ∧ ∀ x ∈ xs, likeOk n x = true := by
  rw [likeOk, Bool.and_eq_true, decide_eq_true_eq, List.all_eq_true] at h
  exact h
theorem likeOk_lst {n : Nat} {xs : List D} (h : likeOk (n + 1) (.lst xs) = true) : xs.length ≤ 4096 ∧ ∀ x ∈ xs, likeOk n x = true := by
  rw [likeOk, Bool.and_eq_true, decide_eq_true_eq, List.all_eq_true] at h
  exact h
theorem at_mem {α : Type} {l : List α} {i : Int} (h0 : 0 ≤ i) (h1 : i < l.length) : ∃ x, atI l i = some x ∧ x ∈ l := by
  obtain ⟨n, rfl⟩ := Int.eq_ofNat_of_zero_le h0
  have h : n < l.length := by omega
  exact ⟨l[n], atI_nat (List.getElem?_eq_getElem h), List.getElem_mem h⟩
end DL

namespace DL
open PySem PySem.Spec PyProof.Rows L2
/-! ### tuples of the module's top -/
structure TupC (K : PySem.W.Frag) (mg : Str → Option Value) (x : Str) (c : Addr) (vs : List V) (ds : List D) : Prop where
  mg : mg x = some (.ref c)
  sq : ∀ H, SqT K H c vs
  rep : ∀ H S, RepL K H S vs ds
  flat : ds.all flatD = true
theorem sqT_in {K : PySem.W.Frag} {H : Hp} {c : Addr} {dd : Option Addr} {its : Array Value} {n : Nat} {sl : Array (Option Value)} {vs : List V} (h : K.lookup c = some ⟨.type "tuple", dd, .seq its n, sl⟩) (hz : its.size ≤ 1000) (r : Vals vs its.toList) : SqT K H c vs :=
  .inr ⟨_, its, n, h, rfl, rfl, by rw [sizeLine_eq]; omega, r⟩
theorem dt_inC {X : Cx} {K : PySem.W.Frag} {x : Str} {a : Expr} {ta : TE} {da : TD} {pos ps : Pos} {c : Addr} {vs : List V} {ds : List D} (T : TupC K X.mg x c vs ds) (hg : Gl X x) (ha : DE X a ta da) (hK : X.K = K := by rfl)
    (hmk : behindInMarks .In (.Name x ps) = false := by rfl) (hdb : (x == ("__debug__" : Str)) = false := by decide) :
    DT X (.Compare a [.In] [.Name x ps] pos) (tTest (tOp (rIn K false) ta (tC (.ref c)))) (dTest fun ρ S Q => da ρ S fun d S1 => flatD d = true ∧ Q (.bl (inF d ds)) S1) := by
  subst hK
  exact ⟨pt_cmpR op_in_seq ha.pe (pe_glob hg T.mg rfl hdb) hmk, ab_test (de_inK (pos := pos) (ps := ps) hg T.mg T.sq T.rep T.flat ha hmk hdb).ab⟩
theorem de_inC {X : Cx} {K : PySem.W.Frag} {x : Str} {a : Expr} {ta : TE} {da : TD} {pos ps : Pos} {c : Addr} {vs : List V} {ds : List D} (T : TupC K X.mg x c vs ds) (hg : Gl X x) (ha : DE X a ta da) (hK : X.K = K := by rfl)
    (hmk : behindInMarks .In (.Name x ps) = false := by rfl) (hdb : (x == ("__debug__" : Str)) = false := by decide) :
    DE X (.Compare a [.In] [.Name x ps] pos) (tOp (rIn K false) ta (tC (.ref c))) (fun ρ S Q => da ρ S fun d S1 => flatD d = true ∧ Q (.bl (inF d ds)) S1) := by
  subst hK
  exact de_inK hg T.mg T.sq T.rep T.flat ha hmk hdb
/-! ### zip and enumerate -/
def zipD (xs ys : List D) : List D := (xs.zip ys).map fun p => .tup [p.1, p.2]
theorem zipD_get {xs ys : List D} {i : Nat} {d : D} (h : (zipD xs ys)[i]? = some d) : ∃ x y, xs[i]? = some x ∧ ys[i]? = some y ∧ d = .tup [x, y] := by
  unfold zipD at h
  rw [List.getElem?_map] at h
  cases e : (xs.zip ys)[i]? with
  | none => rw [e] at h; cases h
  | some p =>
    rw [e] at h
    cases h
    obtain ⟨h1, h2⟩ := List.getElem?_zip_eq_some.mp (show (xs.zip ys)[i]? = some (p.1, p.2) from e)
    exact ⟨p.1, p.2, h1, h2, rfl⟩
theorem zipD_len (xs ys : List D) : (zipD xs ys).length = min xs.length ys.length := by unfold zipD; rw [List.length_map, List.length_zip]
section
variable {K : PySem.W.Frag} {H0 : Hp} {S0 : Sto} {a b : Addr} {xs ys : List D} {us vs : List V}
theorem jrep_zipT (ha : ∀ H S, Wd K H S → Keep H0 S0 H S → SqT K H a us ∧ RepL K H S us xs) (hb : ∀ H S, Wd K H S → Keep H0 S0 H S → SqT K H b vs ∧ RepL K H S vs ys) : JRep K (RZ.ItzT K a b) H0 S0 (zipD xs ys) := fun H S w st => by
  obtain ⟨h1, h2⟩ := ha H S w st
  obtain ⟨h3, h4⟩ := hb H S w st
  refine ⟨fun i d hd => ?_, ⟨us, vs, h1, h3, by rw [zipD_len, h2.length, h4.length]; omega⟩⟩
  obtain ⟨x, y, hx, hy, rfl⟩ := zipD_get hd
  obtain ⟨u, hu, ru⟩ := h2.get hx
  obtain ⟨v, hv, rv⟩ := h4.get hy
  refine ⟨⟨us, vs, u, v, h1, h3, hu, hv⟩, fun z H' q => ?_⟩
  obtain ⟨T, x', y', rfl, hT, rfl, e1, e2⟩ := q
  have e1 := e1 _ h1
  have e2 := e2 _ h3
  rw [hu] at e1; rw [hv] at e2
  cases e1; cases e2
  have st2 := Step.new (o := .tup [u, v]) w hT
  exact ⟨.tup upd_same (w.free hT) (.cons (ru.mono st2) (.cons (rv.mono st2) .nil)), w.new hT, st2⟩
theorem jrep_zipL (ha : ∀ H S, Wd K H S → Keep H0 S0 H S → SqL K H a us ∧ RepL K H S us xs) (hb : ∀ H S, Wd K H S → Keep H0 S0 H S → SqL K H b vs ∧ RepL K H S vs ys) : JRep K (Itz K a b) H0 S0 (zipD xs ys) := fun H S w st => by
  obtain ⟨h1, h2⟩ := ha H S w st
  obtain ⟨h3, h4⟩ := hb H S w st
  refine ⟨fun i d hd => ?_, ⟨us, vs, h1, h3, by rw [zipD_len, h2.length, h4.length]; omega⟩⟩
  obtain ⟨x, y, hx, hy, rfl⟩ := zipD_get hd
  obtain ⟨u, hu, ru⟩ := h2.get hx
  obtain ⟨v, hv, rv⟩ := h4.get hy
  refine ⟨⟨us, vs, u, v, h1, h3, hu, hv⟩, fun z H' q => ?_⟩
  obtain ⟨T, x', y', rfl, hT, rfl, e1, e2⟩ := q
  have e1 := e1 _ h1
  have e2 := e2 _ h3
  rw [hu] at e1; rw [hv] at e2
  cases e1; cases e2
  have st2 := Step.new (o := .tup [u, v]) w hT
  exact ⟨.tup upd_same (w.free hT) (.cons (ru.mono st2) (.cons (rv.mono st2) .nil)), w.new hT, st2⟩
def enumD (xs : List D) : List D := (xs.zipIdx).map fun p => .tup [.int (p.2 : Nat), p.1]
theorem enumD_get {xs : List D} {i : Nat} {d : D} (h : (enumD xs)[i]? = some d) : ∃ x, xs[i]? = some x ∧ d = .tup [.int (i : Nat), x] := by
  unfold enumD at h
  rw [List.getElem?_map, List.getElem?_zipIdx] at h
  cases e : xs[i]? with
  | none => rw [e] at h; cases h
  | some x => rw [e] at h; cases h; exact ⟨x, rfl, by simp⟩
theorem enumD_len (xs : List D) : (enumD xs).length = xs.length := by unfold enumD; rw [List.length_map, List.length_zipIdx]
theorem jrep_enum (ha : ∀ H S, Wd K H S → Keep H0 S0 H S → SqL K H a us ∧ RepL K H S us xs) : JRep K (Ite K a) H0 S0 (enumD xs) := fun H S w st => by
  obtain ⟨h1, h2⟩ := ha H S w st
  refine ⟨fun i d hd => ?_, ⟨us, h1, by rw [enumD_len, h2.length]; exact Nat.le_refl _⟩⟩
  obtain ⟨x, hx, rfl⟩ := enumD_get hd
  obtain ⟨u, hu, ru⟩ := h2.get hx
  refine ⟨⟨us, u, h1, hu⟩, fun z H' q => ?_⟩
  obtain ⟨T, x', rfl, hT, rfl, e1⟩ := q
  have e1 := e1 _ h1
  rw [hu] at e1
  cases e1
  have st2 := Step.new (o := .tup [.int (i : Nat), u]) w hT
  exact ⟨.tup upd_same (w.free hT) (.cons (.int _) (.cons (ru.mono st2) .nil)), w.new hT, st2⟩
theorem rep_tup_stay {v : V} (r : Rep K H0 S0 v (.tup xs)) : ∃ a us, v = .ref a ∧ ∀ H S, Wd K H S → Keep H0 S0 H S → SqT K H a us ∧ RepL K H S us xs := by
  cases r with
  | tup h n rl => exact ⟨_, _, rfl, fun H S w st => ⟨SqT.of (st _ _ h n).1, rl.monoK st⟩⟩
theorem rep_lst_stay {v : V} (r : Rep K H0 S0 v (.lst xs)) : ∃ a us, v = .ref a ∧ ∀ H S, Wd K H S → Keep H0 S0 H S → SqL K H a us ∧ RepL K H S us xs := by
  cases r with
  | lst h n rl => exact ⟨_, _, rfl, fun H S w st => ⟨SqL.of (st _ _ h n).1, rl.monoK st⟩⟩
end
def dZip (t u : TD) : TDI := fun ρ S Q => t ρ S fun x S1 => u ρ S1 fun y S2 => match x, y with
  | .tup xs, .tup ys => Q (zipD xs ys) S2
  | .lst xs, .lst ys => Q (zipD xs ys) S2
  | _, _ => False
def dZipK (xs : List D) (u : TD) : TDI := fun ρ S Q => u ρ S fun y S2 => match y with
  | .tup ys => Q (zipD xs ys) S2
  | _ => False
def dEnum (t : TD) : TDI := fun ρ S Q => t ρ S fun x S1 => match x with
  | .lst xs => Q (enumD xs) S1
  | _ => False
section
variable {X : Cx} {K : PySem.W.Frag} {e e2 : Expr} {te tu : TE} {t u : TD} {p p2 pos tpos : Pos} {elts : List Expr} {kk : Nat}
theorem k_diZip (hg : Gl X "zip") (hm : X.mg "zip" = none) (he : DE X e te t) (hu : DE X e2 tu u) (hK : X.K = K := by rfl)
    (hs : starEach [e, e2] X.env = (false, eval e X.env) :: starEach [e2] X.env := by rfl) (hs2 : starEach [e2] X.env = (false, eval e2 X.env) :: starEach [] X.env := by rfl) (hpl : (backTo pos (starEach [e2] X.env)).any (·.1) = false := by rfl) :
    DI X (.Tuple elts kk tpos) (.Call (.Name "zip" p) [e, e2] [] pos) (RZ.iZipA K (tCons te (tCons tu tNil))) (dZip t u) := by
  subst hK
  refine ⟨RZ.pi_zipA hg hm (pa_cons he.pe (pa_cons hu.pe pa_nil hs2) hs) hs hpl, fun σ H ρ S Q R w rs q k => he.ab σ H ρ S _ _ w rs q fun v H1 x S1 r1 w1 s1 q1 => hu.ab σ H1 ρ S1 _ _ w1 (rs.mono s1) q1 fun z H2 y S2 r2 w2 s2 q2 => ?_⟩
  split at q2
  · obtain ⟨a, us, rfl, h1⟩ := rep_tup_stay (r1.mono s2)
    obtain ⟨b, vs, rfl, h2⟩ := rep_tup_stay r2
    exact ⟨a, b, us, vs, rfl, .inr ⟨(h1 _ _ w2 Keep.refl).1, (h2 _ _ w2 Keep.refl).1, k _ _ _ _ w2 (s1.trans s2) (jrep_zipT h1 h2) q2⟩⟩
  · obtain ⟨a, us, rfl, h1⟩ := rep_lst_stay (r1.mono s2)
    obtain ⟨b, vs, rfl, h2⟩ := rep_lst_stay r2
    exact ⟨a, b, us, vs, rfl, .inl ⟨(h1 _ _ w2 Keep.refl).1, (h2 _ _ w2 Keep.refl).1, k _ _ _ _ w2 (s1.trans s2) (jrep_zipL h1 h2) q2⟩⟩
  · exact q2.elim
theorem k_diZipK {x : Str} {c : Addr} {cs : List V} {xs : List D} (T : TupC K X.mg x c cs xs) (hgx : Gl X x) (hg : Gl X "zip") (hm : X.mg "zip" = none) (hu : DE X e2 tu u) (hK : X.K = K := by rfl) (hn : x ≠ "__name__" := by decide) (hdb : (x == ("__debug__" : Str)) = false := by decide)
    (hs : starEach [.Name x p2, e2] X.env = (false, eval (.Name x p2) X.env) :: starEach [e2] X.env := by rfl) (hs2 : starEach [e2] X.env = (false, eval e2 X.env) :: starEach [] X.env := by rfl) (hpl : (backTo pos (starEach [e2] X.env)).any (·.1) = false := by rfl) :
    DI X (.Tuple elts kk tpos) (.Call (.Name "zip" p) [.Name x p2, e2] [] pos) (RZ.iZipA K (tCons (tC (.ref c)) (tCons tu tNil))) (dZipK xs u) := by
  subst hK
  refine ⟨RZ.pi_zipA hg hm (pa_cons (pe_glob hgx T.mg rfl hdb) (pa_cons hu.pe pa_nil hs2) hs) hs hpl, fun σ H ρ S Q R w rs q k => hu.ab σ H ρ S _ _ w rs q fun z H2 y S2 r2 w2 s2 q2 => ?_⟩
  split at q2
  · obtain ⟨b, vs, rfl, h2⟩ := rep_tup_stay r2
    exact ⟨c, b, cs, vs, rfl, .inr ⟨T.sq _, (h2 _ _ w2 Keep.refl).1, k _ _ _ _ w2 s2 (jrep_zipT (fun H S _ _ => ⟨T.sq H, T.rep H S⟩) h2) q2⟩⟩
  · exact q2.elim
theorem k_diEnum (hg : Gl X "enumerate") (hm : X.mg "enumerate" = none) (he : DE X e te t) (hK : X.K = K := by rfl) (hs : starEach [e] X.env = (false, eval e X.env) :: starEach [] X.env := by rfl) :
    DI X (.Tuple elts kk tpos) (.Call (.Name "enumerate" p) [e] [] pos) (iEnum K (tCons te tNil)) (dEnum t) := by
  subst hK
  refine ⟨pi_enum hg hm (pa_cons he.pe pa_nil hs) hs, fun σ H ρ S Q R w rs q k => he.ab σ H ρ S _ _ w rs q fun v H1 x S1 r1 w1 s1 q1 => ?_⟩
  split at q1
  · obtain ⟨a, us, rfl, h1⟩ := rep_lst_stay r1
    exact ⟨a, us, rfl, (h1 _ _ w1 Keep.refl).1, k _ _ _ _ w1 s1 (jrep_enum h1) q1⟩
  · exact q1.elim
/-- a loop over pairs -/
theorem for_zip {tb : TDS} {g : TDG} {E : DEnds} {ρ : DSt} {S : Sto} {xs ys : List D} (ht : ∀ Q : DQ, Q (.tup xs) S → t ρ S Q) (hu : ∀ Q : DQ, Q (.tup ys) S → u ρ S Q) (W : Nat → DSt → Sto → Prop) (h0 : W 0 ρ S)
    (hs : ∀ (i : Nat) (x y : D) ρ' S', xs[i]? = some x → ys[i]? = some y → W i ρ' S' → g (.tup [x, y]) ρ' S' fun ρ2 S2 => tb { E with nx := W (i + 1), ct := W (i + 1), bk := E.nx } ρ2 S2) (hd : ∀ ρ' S', W (min xs.length ys.length) ρ' S' → E.nx ρ' S') : dFor (dZip t u) g tb E ρ S :=
  ⟨ht _ (hu _ ⟨W, h0, fun i d ρ' S' h w => by
    obtain ⟨x, y, h1, h2, rfl⟩ := zipD_get h
    exact hs i x y ρ' S' h1 h2 w, fun ρ' S' w => hd ρ' S' (by rw [zipD_len] at w; exact w)⟩)⟩
theorem for_zipL {tb : TDS} {g : TDG} {E : DEnds} {ρ : DSt} {S : Sto} {xs ys : List D} (ht : ∀ Q : DQ, Q (.lst xs) S → t ρ S Q) (hu : ∀ Q : DQ, Q (.lst ys) S → u ρ S Q) (W : Nat → DSt → Sto → Prop) (h0 : W 0 ρ S)
    (hs : ∀ (i : Nat) (x y : D) ρ' S', xs[i]? = some x → ys[i]? = some y → W i ρ' S' → g (.tup [x, y]) ρ' S' fun ρ2 S2 => tb { E with nx := W (i + 1), ct := W (i + 1), bk := E.nx } ρ2 S2) (hd : ∀ ρ' S', W (min xs.length ys.length) ρ' S' → E.nx ρ' S') : dFor (dZip t u) g tb E ρ S :=
  ⟨ht _ (hu _ ⟨W, h0, fun i d ρ' S' h w => by
    obtain ⟨x, y, h1, h2, rfl⟩ := zipD_get h
    exact hs i x y ρ' S' h1 h2 w, fun ρ' S' w => hd ρ' S' (by rw [zipD_len] at w; exact w)⟩)⟩
theorem for_zipK {tb : TDS} {g : TDG} {E : DEnds} {ρ : DSt} {S : Sto} {xs ys : List D} (hu : ∀ Q : DQ, Q (.tup ys) S → u ρ S Q) (W : Nat → DSt → Sto → Prop) (h0 : W 0 ρ S)
    (hs : ∀ (i : Nat) (x y : D) ρ' S', xs[i]? = some x → ys[i]? = some y → W i ρ' S' → g (.tup [x, y]) ρ' S' fun ρ2 S2 => tb { E with nx := W (i + 1), ct := W (i + 1), bk := E.nx } ρ2 S2) (hd : ∀ ρ' S', W (min xs.length ys.length) ρ' S' → E.nx ρ' S') : dFor (dZipK xs u) g tb E ρ S :=
  ⟨hu _ ⟨W, h0, fun i d ρ' S' h w => by
    obtain ⟨x, y, h1, h2, rfl⟩ := zipD_get h
    exact hs i x y ρ' S' h1 h2 w, fun ρ' S' w => hd ρ' S' (by rw [zipD_len] at w; exact w)⟩⟩
theorem for_enum {tb : TDS} {g : TDG} {E : DEnds} {ρ : DSt} {S : Sto} {xs : List D} (ht : ∀ Q : DQ, Q (.lst xs) S → t ρ S Q) (W : Nat → DSt → Sto → Prop) (h0 : W 0 ρ S)
    (hs : ∀ (i : Nat) (x : D) ρ' S', xs[i]? = some x → W i ρ' S' → g (.tup [.int (i : Nat), x]) ρ' S' fun ρ2 S2 => tb { E with nx := W (i + 1), ct := W (i + 1), bk := E.nx } ρ2 S2) (hd : ∀ ρ' S', W xs.length ρ' S' → E.nx ρ' S') : dFor (dEnum t) g tb E ρ S :=
  ⟨ht _ ⟨W, h0, fun i d ρ' S' h w => by
    obtain ⟨x, h1, rfl⟩ := enumD_get h
    exact hs i x ρ' S' h1 w, fun ρ' S' w => hd ρ' S' (by rw [enumD_len] at w; exact w)⟩⟩
end
end DL

namespace DL
open PySem PySem.Spec PyProof.Rows L2
/-! ### sum of a tuple -/
theorem tup_sum_raw {prog : Program} {w : World} {A : Around} {E : Value → Shared → Prop} {s : Shared} {t : Addr} {its : List Value} {ns : List Int} {Q : Value → Shared → Prop} (hh : A.handled = none) (hl : s.heap.IsTuple t its.toArray) (hi : IntsAre its ns)
    (h : ∀ h' tk t', (∀ b o, s.heap.get? b = some o → h'.get? b = some o) → Q (.int ns.sum t') { s with heap := h', toks := tk }) : wpAny (model prog w) A (call (.builtin "sum") [.ref t]) Q E s := by
  obtain ⟨xs, e⟩ := hi.allInts.items
  have hn : numsOf (intItems xs).toList = ns := by rw [← e]; exact hi.numsOf
  rw [nums_intItems] at hn
  rw [e] at hl
  refine PySem.W.ktm_sumG hh hl fun h' tk t' hk => ?_
  have := h h' tk t' hk
  rw [preSum_eq, List.take_of_length_le (by simp), hn]; exact this
def rSumT (K : PySem.W.Frag) : List V → Hp → VK → Prop := fun vs H Q => ∃ (a : Addr) (ns : List Int), vs = [V.ref a] ∧ SqT K H a (ns.map V.int) ∧ Q (.int ns.sum) H
section
variable {X : Cx} {K : PySem.W.Frag}
theorem cr_sumT (hc : X.calm = true) : CallR X (.builtin "sum") (rSumT X.K) := by
  intro pins s σ H vs us Q I r h
  obtain ⟨a, ns, rfl, hs, q⟩ := h
  obtain ⟨its, rv, hl, _⟩ := I.tuple hs
  rw [Vals.ref1 r]
  exact tup_sum_raw (I.ok.hd hc) hl rv.ints fun h' tk t' hk => ⟨.int _, H, I.kept hk, ⟨_, rfl⟩, q⟩
def sumTD : RDC := fun xs S Q => match xs with
  | [.tup ds] => ∃ ns : List Int, ds = ns.map D.int ∧ Q (.int ns.sum) S
  | _ => False
def sum2D : RDC := fun xs S Q => match xs with
  | [.lst ds] => ∃ ns : List Int, ds = ns.map D.int ∧ Q (.int ns.sum) S
  | [.tup ds] => ∃ ns : List Int, ds = ns.map D.int ∧ Q (.int ns.sum) S
  | _ => False
theorem dc_sumT (hc : X.calm = true) : DC X (.builtin "sum") (rSumT X.K) sumTD :=
  ⟨cr_sumT hc, fun H S vs ds Q Qv w rv q k => by
    unfold sumTD at q
    split at q
    · obtain ⟨ns, rfl, q⟩ := q
      cases rv with
      | cons r t =>
        cases t
        obtain ⟨a, us, rfl, h1, h2⟩ := r.tup
        rw [RepL.ints_of h2] at h1
        exact ⟨a, ns, rfl, h1, k _ _ _ _ (.int _) w Step.refl q⟩
    · exact False.elim q⟩
theorem k_sum2 (hc : X.calm = true) (hK : X.K = K := by rfl) : DC X (.builtin "sum") (fun xs H Q => rSum K xs H Q ∨ rSumT K xs H Q) sum2D := by
  subst hK
  refine (dc_sum hc).or (dc_sumT hc) fun xs S Q q => ?_
  unfold sum2D at q
  split at q
  · exact .inl q
  · exact .inr q
  · exact q.elim
end
/-! ### states of rallies -/
structure S5 where
  a : Int
  b : Int
  s : Bool
  x : Int
  y : Int
def S5.next (n : S5) (w : Bool) : S5 := if w then ⟨n.a + 1, n.b, true, n.x + (if n.s then 0 else 1), n.y⟩ else ⟨n.a, n.b + 1, false, n.x, n.y + (if n.s then 1 else 0)⟩
def S5.D (n : S5) : D := .tup [.int n.a, .int n.b, .str (sd n.s), .int n.x, .int n.y]
def stM (f : Bool) (w : List Bool) : S5 := w.foldl S5.next ⟨0, 0, f, 0, 0⟩
theorem stM_snoc (f : Bool) (w : List Bool) (b : Bool) : stM f (w ++ [b]) = (stM f w).next b := by unfold stM; rw [List.foldl_append]; rfl
theorem take_snoc {α : Type} {l : List α} {i : Nat} {x : α} (h : l[i]? = some x) : l.take (i + 1) = l.take i ++ [x] := by rw [List.take_add_one, h]; rfl
theorem stM_take {f : Bool} {w : List Bool} {i : Nat} {b : Bool} (h : w[i]? = some b) : stM f (w.take (i + 1)) = (stM f (w.take i)).next b := by rw [take_snoc h, stM_snoc]
theorem filt_none {α : Type} (l : List α) : l.filter (fun _ => false) = [] := by simp
/-- all turned's bounds -/
theorem S5.next_nn {n : S5} {w : Bool} (h : 0 ≤ n.a ∧ 0 ≤ n.b ∧ 0 ≤ n.x ∧ 0 ≤ n.y) : 0 ≤ (n.next w).a ∧ 0 ≤ (n.next w).b ∧ 0 ≤ (n.next w).x ∧ 0 ≤ (n.next w).y := by
  obtain ⟨a, b, s, x, y⟩ := n
  obtain ⟨h1, h2, h3, h4⟩ := h
  simp only at h1 h2 h3 h4
  cases w <;> cases s <;> refine ⟨?_, ?_, ?_, ?_⟩ <;> simp only [S5.next] <;> simp <;> omega
theorem stM_nn (f : Bool) : ∀ w : List Bool, 0 ≤ (stM f w).a ∧ 0 ≤ (stM f w).b ∧ 0 ≤ (stM f w).x ∧ 0 ≤ (stM f w).y := by
  intro w
  unfold stM
  suffices h : ∀ (n : S5), (0 ≤ n.a ∧ 0 ≤ n.b ∧ 0 ≤ n.x ∧ 0 ≤ n.y) → 0 ≤ (w.foldl S5.next n).a ∧ 0 ≤ (w.foldl S5.next n).b ∧ 0 ≤ (w.foldl S5.next n).x ∧ 0 ≤ (w.foldl S5.next n).y from h _ ⟨Int.le_refl _, Int.le_refl _, Int.le_refl _, Int.le_refl _⟩
  induction w with
  | nil => intro n h; exact h
  | cons b w ih => intro n h; exact ih _ (S5.next_nn h)
end DL
namespace DL
open PySem PySem.Spec PyProof.Rows L2
theorem sd_len (b : Bool) : (sd b).length = 1 := by cases b <;> decide +kernel
theorem abbb_at {i : Int} (h0 : 0 ≤ i) (h1 : i < 4) : ∃ b, atI ("ABBB" : Str).cps.toList i = some (cpS b) := by
  have : i = 0 ∨ i = 1 ∨ i = 2 ∨ i = 3 := by omega
  rcases this with rfl | rfl | rfl | rfl
  · exact ⟨true, at0⟩
  · exact ⟨false, at1⟩
  · exact ⟨false, at2⟩
  · exact ⟨false, at3⟩
theorem ab_at {i : Int} (h0 : 0 ≤ i) (h1 : i < 2) : ∃ b, atI ("AB" : Str).cps.toList i = some (cpS b) := by
  have : i = 0 ∨ i = 1 := by omega
  rcases this with rfl | rfl
  · exact ⟨true, at0⟩
  · exact ⟨false, at1⟩
theorem tx_sz {w : List Bool} (h : w.length ≤ 16777216) : SzOk (tx w).length := sz_le (by rw [tx_len]; exact h)
theorem tx_szs {w : List Bool} {b : Bool} (h : w.length ≤ 1000000) : SzOk ((tx w).length + (sd b).length) := sz_le (by rw [tx_len, sd_len]; omega)
def sp_l_text : DSp := fun ds S Q => ∃ T m tp, ds = [.ref T, .int m] ∧ (0 ≤ m ∧ m ≤ 200) ∧ S T = some tp ∧ TapeOk tp ∧ ∀ (w : List Bool) tp', (w.length : Int) ≤ m → TapeOk tp' → Q (.str (tx w)) (updS S T tp')
/-- drawn sizes -/
def sp_l_sizes : DSp := fun ds S Q => ∃ T tp, ds = [.ref T] ∧ S T = some tp ∧ TapeOk tp ∧ ∀ (p q : Int) tp', (1 ≤ p ∧ p ≤ 12 ∧ 1 ≤ q ∧ q ≤ 12) → TapeOk tp' → Q (.tup [.int p, .int q]) (updS S T tp')
def sp_l_now : DSp := fun ds S Q => ∃ (f : Bool) (w : List Bool), ds = [.str (sd f), .str (tx w)] ∧ Q (stM f w).D S
/-- the dicts of the law's own counts -/
abbrev pD (x y : Int) : List (Key × D) := [(.inr "A", .int x), (.inr "B", .int y)]
theorem kne : ¬ ((.inr "A" : Key) = .inr "B") := fun h => by injection h with h; exact (show ¬ (("A" : Str) = "B") by decide +kernel) h
theorem val_pD (x y : Int) (b : Bool) : valD (pD x y) (.inr (sd b)) = some (.int (if b then x else y)) := by
  cases b with
  | true => exact valD_pos (p := ((.inr "A" : Key), D.int x)) rfl
  | false => exact (valD_neg (p := ((.inr "A" : Key), D.int x)) kne).trans (valD_pos (p := ((.inr "B" : Key), D.int y)) rfl)
theorem put_pD (x y z : Int) (b : Bool) : putD (pD x y) (.inr (sd b)) (.int z) = if b then pD z y else pD x z := by
  have h : valD (pD x y) (.inr (sd b)) = some (.int (if b then x else y)) := val_pD x y b
  unfold putD
  rw [if_pos (by rw [valD_any, h]; rfl)]
  cases b with
  | true =>
    show [if (.inr "A" : Key) = .inr "A" then _ else _, if (.inr "B" : Key) = .inr "A" then _ else _] = _
    rw [if_pos rfl, if_neg (fun z => kne z.symm)]; rfl
  | false =>
    show [if (.inr "A" : Key) = .inr "B" then _ else _, if (.inr "B" : Key) = .inr "B" then _ else _] = _
    rw [if_neg kne, if_pos rfl]; rfl
theorem val_A (x y : Int) : valD (pD x y) (.inr "A") = some (.int x) := val_pD x y true
theorem val_B (x y : Int) : valD (pD x y) (.inr "B") = some (.int y) := val_pD x y false
theorem put_A (x y z : Int) : putD (pD x y) (.inr "A") (.int z) = pD z y := put_pD x y z true
theorem put_B (x y z : Int) : putD (pD x y) (.inr "B") (.int z) = pD x z := put_pD x y z false
theorem merge_pD : mergeD [] (pD 0 0) = pD 0 0 := by
  have e : putD [((.inr "A" : Key), D.int 0)] (.inr "B") (.int 0) = pD 0 0 := by
    unfold putD
    rw [if_neg (by rw [valD_any, valD_neg kne]; exact Bool.noConfusion)]; rfl
  exact e
theorem updS_put1 {S : Sto} {p p2 : Addr} {A A' B : MO} (h : p ≠ p2) : updS (updS (updS S p A) p2 B) p A' = updS (updS S p A') p2 B := by rw [updS_comm (fun z => h z.symm), updS_updS]
theorem Leave.sub {Q : DQ} {d : D} {S S1 : Sto} (h : Sub S S1) (q : Q d S) : Leave Q d S1 := ⟨S, h, .inl q⟩
theorem sub_new {S : Sto} {p : Addr} {m : MO} (h : S p = none) : Sub S (updS S p m) := fun a u e => by
  rw [updS_ne (fun z => by rw [z, h] at e; cases e)]; exact e
theorem Sub.trans {S S1 S2 : Sto} (h : Sub S S1) (h2 : Sub S1 S2) : Sub S S2 := fun a u e => h2 a u (h a u e)
theorem none_ne {S : Sto} {p p2 : Addr} {m : MO} (h : updS S p m p2 = none) : p ≠ p2 := fun z => by rw [z, updS_same] at h; cases h
theorem none_old {S : Sto} {p p2 : Addr} {m : MO} (h : updS S p m p2 = none) : S p2 = none := by
  have := none_ne h
  rw [updS_ne (fun z => this z.symm)] at h; exact h
theorem sz2_at {x u : Int} (hx : 0 ≤ x ∧ x < 12) (h0 : 0 ≤ u) (h1 : u < 2) : ∃ one : Int, atI [D.int 6, D.int (1 + x)] u = some (.int one) ∧ 1 ≤ one ∧ one ≤ 12 := by
  have : u = 0 ∨ u = 1 := by omega
  rcases this with rfl | rfl
  · exact ⟨6, at0, by decide, by decide⟩
  · exact ⟨1 + x, at1, by omega, by omega⟩
theorem sz3_at {one x u : Int} (ho : 1 ≤ one ∧ one ≤ 12) (hx : 0 ≤ x ∧ x < 12) (h0 : 0 ≤ u) (h1 : u < 3) : ∃ two : Int, atI [D.int one, D.int 6, D.int (1 + x)] u = some (.int two) ∧ 1 ≤ two ∧ two ≤ 12 := by
  have : u = 0 ∨ u = 1 ∨ u = 2 := by omega
  rcases this with rfl | rfl | rfl
  · exact ⟨one, at0, ho.1, ho.2⟩
  · exact ⟨6, at1, by decide, by decide⟩
  · exact ⟨1 + x, at2, by omega, by omega⟩
def sp_next_state : DSp := fun ds S Q => ∃ (n : S5) (w : Bool), ds = [n.D, .str (sd w)] ∧ Q (n.next w).D S
/-- the server and its player -/
def srvD (p q : Int) (n : S5) : D := .tup [.str (sd n.s), .int (if n.s then n.x % p else n.y % q)]
def sp_server_of : DSp := fun ds S Q => ∃ p q n, ds = [.tup [.int p, .int q], n.D] ∧ (0 < p ∧ 0 < q) ∧ Q (srvD p q n) S
def srvL (p q : Int) (f : Bool) (w : List Bool) (k : Nat) : List D := (List.range k).map fun i => srvD p q (stM f (w.take i))
def sp_servers : DSp := fun ds S Q => ∃ p q f w, ds = [.tup [.int p, .int q], .str (sd f), .str (tx w)] ∧ (0 < p ∧ 0 < q) ∧ w.length ≤ 1000 ∧ Q (.tup (srvL p q f w w.length)) S
theorem srvL_succ {p q : Int} {f : Bool} {w : List Bool} {k : Nat} : srvL p q f w (k + 1) = srvL p q f w k ++ [srvD p q (stM f (w.take k))] := by unfold srvL; rw [List.range_succ, List.map_append]; rfl
theorem srvL_len {p q : Int} {f : Bool} {w : List Bool} {k : Nat} : (srvL p q f w k).length = k := by unfold srvL; rw [List.length_map, List.length_range]
/-- how many rows are of the side's player -/
def cntD (rows : List D) (s : Bool) (i : Int) : Int := ((rows.countP fun z => D.eqv z (.tup [.str (sd s), .int i]) : Nat) : Int)
def cntL (rows : List D) (s : Bool) (p : Int) : List D := (irg 0 p).map fun i => .int (cntD rows s i)
def sp_served : DSp := fun ds S Q => ∃ p q f w, ds = [.tup [.int p, .int q], .str (sd f), .str (tx w)] ∧ (0 < p ∧ p ≤ 1000 ∧ 0 < q ∧ q ≤ 1000) ∧ w.length ≤ 1000 ∧ Q (.tup [.tup (cntL (srvL p q f w w.length) true p), .tup (cntL (srvL p q f w w.length) false q)]) S
theorem zk_get {p q : Int} {i : Nat} {x y : D} (hx : [D.str "A", D.str "B"][i]? = some x) (hy : [D.int p, D.int q][i]? = some y) : (i = 0 ∧ x = .str (sd true) ∧ y = .int p) ∨ (i = 1 ∧ x = .str (sd false) ∧ y = .int q) := by
  match i, hx, hy with
  | 0, hx, hy => cases hx; cases hy; exact .inl ⟨rfl, rfl, rfl⟩
  | 1, hx, hy => cases hx; cases hy; exact .inr ⟨rfl, rfl, rfl⟩
theorem strOk_sd (b : Bool) : PyData.strOk (sd b) = true := by cases b <;> decide +kernel
theorem ok_pair {b : Bool} {i : Int} {n : Nat} : D.ok (n + 1) (.tup [.str (sd b), .int i]) = true := by
  simp [D.ok, D.okL, strOk_sd]
theorem ok_srv {p q : Int} {n : S5} {k : Nat} : D.ok (k + 1) (srvD p q n) = true := ok_pair
theorem srvL_mem {p q : Int} {f : Bool} {w : List Bool} {k : Nat} {d : D} (h : d ∈ srvL p q f w k) : ∃ n, d = srvD p q n := by
  unfold srvL at h
  obtain ⟨i, _, rfl⟩ := List.mem_map.mp h
  exact ⟨_, rfl⟩
theorem okL_srv {p q : Int} {f : Bool} {w : List Bool} {k n : Nat} : D.okL (n + 1) (srvL p q f w k) = true := okL_iff.mpr fun d h => by
  obtain ⟨m, rfl⟩ := srvL_mem h
  exact ok_srv
theorem eqv_pair (s t : Bool) (i j : Int) : D.eqv (.tup [.str (sd s), .int i]) (.tup [.str (sd t), .int j]) = decide (s = t ∧ i = j) := by
  have e1 : D.eqv (.tup [.str (sd s), .int i]) (.tup [.str (sd t), .int j]) = (decide (sd s = sd t) && decide (i = j)) := by
    simp [D.eqv, D.toPy, D.toPyL, PyData.eqv, PyData.eqvAll, Bool.beq_eq_decide_eq]
  rw [e1, dsd]
  cases s <;> cases t <;> simp
theorem len_filt {L : List D} {p : D → Bool} {f : D → D} : ((L.filter p).map f).length = L.countP p := by rw [List.length_map, List.countP_eq_length_filter]
/-- each row is of one player: sums -/
theorem sum_ite {k n : Int} : ∀ m : Nat, ((irg 0 m).map fun i => if k = i then (1 : Int) else 0).sum = if 0 ≤ k ∧ k < m then 1 else 0
  | 0 => by
    rw [irg_nil (show ((0 : Nat) : Int) ≤ 0 by omega), if_neg (by omega)]; rfl
  | m + 1 => by
    rw [show ((m + 1 : Nat) : Int) = (m : Int) + 1 by omega, irg_snoc (by omega), List.map_append, List.sum_append, sum_ite m (n := n)]
    show _ + ((if k = (m : Int) then 1 else 0) + 0) = _
    by_cases h1 : 0 ≤ k ∧ k < (m : Int)
    · rw [if_pos h1, if_neg (by omega), if_pos (by omega)]; rfl
    · rw [if_neg h1]
      by_cases h2 : k = (m : Int)
      · rw [if_pos h2, if_pos (by omega)]; rfl
      · rw [if_neg h2, if_neg (by omega)]; rfl
theorem sum_add {l : List Int} {f g : Int → Int} : (l.map fun i => f i + g i).sum = (l.map f).sum + (l.map g).sum := by
  induction l with
  | nil => rfl
  | cons x l ih => rw [List.map_cons, List.map_cons, List.map_cons, List.sum_cons, List.sum_cons, List.sum_cons, ih]; omega
theorem cntD_cons {d : D} {rows : List D} {s : Bool} {i : Int} : cntD (d :: rows) s i = (if D.eqv d (.tup [.str (sd s), .int i]) then 1 else 0) + cntD rows s i := by
  unfold cntD
  rw [List.countP_cons]
  split <;> omega
theorem sum_cnt {p q : Int} (hp : 0 < p) (hq : 0 < q) : ∀ rows : List D, (∀ d ∈ rows, ∃ n, d = srvD p q n) → ((irg 0 p).map (cntD rows true)).sum + ((irg 0 q).map (cntD rows false)).sum = rows.length
  | [], _ => by
    have z : ∀ s l, (List.map (cntD [] s) l).sum = 0 := fun s l => by
      induction l with
      | nil => rfl
      | cons x l ih => rw [List.map_cons, List.sum_cons, ih]; rfl
    rw [z, z]; rfl
  | d :: rows, h => by
    have ih := sum_cnt hp hq rows (fun d hd => h d (List.mem_cons_of_mem _ hd))
    obtain ⟨n, rfl⟩ := h d List.mem_cons_self
    have key : ∀ (s : Bool) (l : List Int), (l.map (cntD (srvD p q n :: rows) s)).sum = (l.map fun i => if n.s = s ∧ (if n.s then n.x % p else n.y % q) = i then (1 : Int) else 0).sum + (l.map (cntD rows s)).sum := fun s l => by
      rw [← sum_add]
      congr 1
      refine List.map_congr_left fun i _ => ?_
      rw [cntD_cons, srvD, eqv_pair]
      congr 1
      by_cases hc : n.s = s ∧ (if n.s = true then n.x % p else n.y % q) = i
      · rw [if_pos (decide_eq_true hc), if_pos hc]
      · rw [if_neg (fun z => hc (of_decide_eq_true z)), if_neg hc]
    rw [key, key, List.length_cons]
    obtain ⟨P, rfl⟩ := Int.eq_ofNat_of_zero_le (show 0 ≤ p by omega)
    obtain ⟨R, rfl⟩ := Int.eq_ofNat_of_zero_le (show 0 ≤ q by omega)
    have zero : ∀ l : List Int, (l.map fun _ => (0 : Int)).sum = 0 := fun l => by
      induction l with
      | nil => rfl
      | cons x l ih => rw [List.map_cons, List.sum_cons, ih]; rfl
    cases hs : n.s with
    | true =>
      have e1 : ((irg 0 (P : Int)).map fun i => if true = true ∧ (if true = true then n.x % (P : Int) else n.y % (R : Int)) = i then (1 : Int) else 0).sum = 1 := by
        have := sum_ite (k := n.x % (P : Int)) (n := 0) P
        rw [if_pos ⟨Int.emod_nonneg _ (by omega), Int.emod_lt_of_pos _ hp⟩] at this
        refine Eq.trans (congrArg List.sum (List.map_congr_left fun i _ => ?_)) this
        simp
      have e2 : ((irg 0 (R : Int)).map fun i => if true = false ∧ (if true = true then n.x % (P : Int) else n.y % (R : Int)) = i then (1 : Int) else 0).sum = 0 := by
        refine Eq.trans (congrArg List.sum (List.map_congr_left fun i _ => ?_)) (zero _)
        simp
      rw [e1, e2]; omega
    | false =>
      have e1 : ((irg 0 (P : Int)).map fun i => if false = true ∧ (if false = true then n.x % (P : Int) else n.y % (R : Int)) = i then (1 : Int) else 0).sum = 0 := by
        refine Eq.trans (congrArg List.sum (List.map_congr_left fun i _ => ?_)) (zero _)
        simp
      have e2 : ((irg 0 (R : Int)).map fun i => if false = false ∧ (if false = true then n.x % (P : Int) else n.y % (R : Int)) = i then (1 : Int) else 0).sum = 1 := by
        have := sum_ite (k := n.y % (R : Int)) (n := 0) R
        rw [if_pos ⟨Int.emod_nonneg _ (by omega), Int.emod_lt_of_pos _ hq⟩] at this
        refine Eq.trans (congrArg List.sum (List.map_congr_left fun i _ => ?_)) this
        simp
      rw [e1, e2]; omega
theorem tt_at {x : Int} (h0 : 0 ≤ x) (h1 : x < 2) : ∃ m, atI [D.int 20, D.int 200] x = some (.int m) ∧ 0 ≤ m ∧ m ≤ 200 := by
  have : x = 0 ∨ x = 1 := by omega
  rcases this with rfl | rfl
  · exact ⟨20, at0, by decide, by decide⟩
  · exact ⟨200, at1, by decide, by decide⟩
theorem like_srvL {p q : Int} {f : Bool} {w : List Bool} {k : Nat} (h : k ≤ 4096) : likeOk 4 (.tup (srvL p q f w k)) = true := by
  rw [likeOk, Bool.and_eq_true, decide_eq_true_eq, List.all_eq_true, srvL_len]
  refine ⟨h, fun d hd => ?_⟩
  obtain ⟨n, rfl⟩ := srvL_mem hd
  rfl
theorem like_ints {n : Nat} {l : List Int} (h : l.length ≤ 4096) : likeOk (n + 2) (.lst (l.map D.int)) = true := by
  rw [likeOk, Bool.and_eq_true, decide_eq_true_eq, List.all_eq_true, List.length_map]
  refine ⟨h, fun d hd => ?_⟩
  obtain ⟨i, _, rfl⟩ := List.mem_map.mp hd
  rfl
theorem like_cntL {n : Nat} {rows : List D} {s : Bool} {p : Int} (h : p ≤ 4096) : likeOk (n + 2) (.tup (cntL rows s p)) = true := by
  unfold cntL
  rw [likeOk, Bool.and_eq_true, decide_eq_true_eq, List.all_eq_true, List.length_map, irg_len]
  refine ⟨by omega, fun d hd => ?_⟩
  obtain ⟨i, _, rfl⟩ := List.mem_map.mp hd
  rfl
theorem like_cnt2 {rows : List D} {p q : Int} (h : p ≤ 4096) (h2 : q ≤ 4096) : likeOk 4 (.tup [.tup (cntL rows true p), .tup (cntL rows false q)]) = true := by
  rw [likeOk]
  simp only [List.all_cons, List.all_nil, like_cntL h, like_cntL h2]
  rfl
end DL

/-! zip of a tuple and a list (either kind on either side): what the zip object draws from is a source. -/
namespace DL
open PySem PySem.Spec PyProof.Rows L2
/-- an iterator it at place k of the tuple (m) or list at l, whose items are xs -/
def Src (m : Bool) (g : Heap) (it l : Addr) (k : Nat) (xs : Array Value) : Prop := match m with
  | true => g.IsTupleIter it l k ∧ g.IsTuple l xs
  | false => g.IsListIter it l k ∧ g.IsList l xs
theorem Src.ext {m : Bool} {g g' : Heap} {it l d : Addr} {k : Nat} {xs : Array Value} (q : Src m g it l k xs) (e : Heap.ExtBut d g g') (ni : it ≠ d) (nl : l ≠ d) : Src m g' it l k xs := by
  cases m with
  | true => exact ⟨q.1.extBut e ni, q.2.extBut e nl⟩
  | false => exact ⟨q.1.extBut e ni, q.2.extBut e nl⟩
theorem Src.up {m : Bool} {g g' : Heap} {it l : Addr} {k : Nat} {xs : Array Value} (q : Src m g it l k xs) (ei : ∀ o, g.get? it = some o → g'.get? it = some o) (el : ∀ o, g.get? l = some o → g'.get? l = some o) : Src m g' it l k xs := by
  cases m with
  | true => exact ⟨q.1.at ei, q.2.at el⟩
  | false => exact ⟨q.1.at ei, q.2.at el⟩
theorem Src.there {m : Bool} {g : Heap} {it l : Addr} {k : Nat} {xs : Array Value} (q : Src m g it l k xs) : ∃ o, g.get? it = some o ∧ ∀ v, o.data ≠ .cell v := by
  cases m with
  | true => obtain ⟨⟨o, e, _, d⟩, _⟩ := q; exact ⟨o, e, fun v z => by rw [d] at z; cases z⟩
  | false => obtain ⟨⟨o, e, _, d⟩, _⟩ := q; exact ⟨o, e, fun v z => by rw [d] at z; cases z⟩
section
variable {prog : Program} {w : World} {A : Around} {E : Value → Shared → Prop} {t : Shared}
theorem src_next {m : Bool} {it l : Addr} {k : Nat} {xs : Array Value} {x : Value} {Q : Value → Shared → Prop} (q : Src m t.heap it l k xs) (hx : xs[k]? = some x) (nl : l ≠ it)
    (go : ∀ g, Src m g it l (k + 1) xs → Heap.SameBut it t.heap g → Q x { t with heap := g }) : wpAny (model prog w) A (Builtin.SmallTypes.nextOf (.ref it)) Q E t := by
  cases m with
  | true => exact RZ.nextOf_tuple_item q.1 q.2 hx fun g a b => go g ⟨a, q.2.extBut b.extBut nl⟩ b
  | false => exact wpAny_nextOf_list_item q.1 q.2 hx fun g a b => go g ⟨a, q.2.extBut b.extBut nl⟩ b
theorem src_stop {m : Bool} {it l : Addr} {k : Nat} {xs : Array Value} {Q : Value → Shared → Prop} (cool : A.handled = none) (q : Src m t.heap it l k xs) (hx : xs[k]? = none)
    (go : ∀ g e, Heap.ExtBut it t.heap g → (∃ o, g.get? e = some o ∧ o.cls = .type "StopIteration") → E (.ref e) { t with heap := g }) : wpAny (model prog w) A (Builtin.SmallTypes.nextOf (.ref it)) Q E t := by
  cases m with
  | true => exact RZ.nextOf_tuple_end cool q.1 q.2 hx go
  | false => exact wpAny_nextOf_list_end cool q.1 q.2 hx go
/-- all but the zip's own four stay -/
def StayZ (c tO ia ib : Addr) (g g' : Heap) : Prop := ∀ b o, b ≠ c → b ≠ tO → b ≠ ia → b ≠ ib → g.get? b = some o → g'.get? b = some o
variable {m n : Bool} {c tI tO ia ib la lb : Addr} {k j : Nat} {xs ys : Array Value} {u v : Value}
theorem zx_item {x y : Value} {Q : Value → Shared → Prop} (D : ZipApart c tI tO ia ib la lb) (hc : IsZip t.heap c tI tO .none) (hI : IsPair t.heap tI (.ref ia) (.ref ib)) (hO : IsPair t.heap tO u v)
    (sa : Src m t.heap ia la k xs) (sb : Src n t.heap ib lb j ys) (ex : xs[k]? = some x) (ey : ys[j]? = some y)
    (go : ∀ g, IsZip g c tI tO (rawInt t.heap.objs.size) → IsPair g tO x y → Src m g ia la (k + 1) xs → Src n g ib lb (j + 1) ys → IsPair g t.heap.objs.size x y → g.objs.size = t.heap.objs.size + 1 → StayZ c tO ia ib t.heap g → Q (.ref t.heap.objs.size) { t with heap := g }) :
    wpAny (model prog w) A (Builtin.«zip.__next__» ⟨[.ref c], []⟩) (fun fin t' => ∃ r, fin = .done (.ret r) ∧ Q r t') E t := by
  show wpAny _ _ (field (.ref c) 2 >>= _) _ _ _
  refine wpAny_bind (wpAny_field hc rfl (x := .bool false) rfl ?_)
  show wpAny _ _ (field (.ref c) 3 >>= _) _ _ _
  refine wpAny_bind (wpAny_field hc rfl (x := .ref tI) rfl ?_)
  refine wpAny_bind (wpAny_seqItems hI rfl ?_)
  show wpAny _ _ (Builtin.SmallTypes.ownedTupleIsFree (.ref c) >>= _) _ _ _
  refine wpAny_bind ?_
  unfold Builtin.SmallTypes.ownedTupleIsFree
  refine wpAny_bind (wpAny_field hc rfl (x := .none) rfl (wpAny_pure ?_))
  rw [if_pos rfl]
  refine wpAny_bind (wpAny_rule ?_)
  refine wpAny_bind (wpAny_field hc rfl (x := .ref tO) rfl ?_)
  refine wpAny_bind (wpAny_setField_rec hc (by simp) fun g1 c1 b1 => ?_)
  replace c1 : IsZip g1 c tI tO .ellipsis := c1
  refine wpAny_bind ?_
  simp only [List.forIn_cons, List.forIn_nil, List.zipIdx_cons, List.zipIdx_nil]
  refine wpAny_bind (wpAny_bind (wpAny_onRaise ?_))
  show wpAny _ _ (Builtin.SmallTypes.nextOf (.ref ia) >>= _) _ _ _
  refine wpAny_bind (src_next (sa.ext b1.extBut D.i1z D.l1z) ex D.l1i1 fun g2 a2 b2 => wpAny_pure ?_)
  have o2 : IsPair g2 tO u v := b2.extBut _ _ D.TOi1 (b1.extBut _ _ D.TOz hO)
  refine wpAny_bind (wpAny_seqItems o2 rfl ?_)
  refine wpAny_bind (wpAny_updateSeq_pair o2 fun g3 o3 b3 => ?_)
  replace o3 : IsPair g3 tO x v := o3
  refine wpAny_bind (wpAny_letGo (wpAny_pure ?_))
  refine wpAny_bind (wpAny_bind (wpAny_onRaise ?_))
  show wpAny _ _ (Builtin.SmallTypes.nextOf (.ref ib) >>= _) _ _ _
  refine wpAny_bind (src_next (((sb.ext b1.extBut D.i2z D.l2z).ext b2.extBut D.i12.symm D.l2i1).ext b3.extBut D.TOi2.symm D.l2TO) ey D.l2i2 fun g4 a4 b4 => wpAny_pure ?_)
  have o4 : IsPair g4 tO x v := b4.extBut _ _ D.TOi2 o3
  refine wpAny_bind (wpAny_seqItems o4 rfl ?_)
  refine wpAny_bind (wpAny_updateSeq_pair o4 fun g5 o5 b5 => ?_)
  replace o5 : IsPair g5 tO x y := o5
  refine wpAny_bind (wpAny_letGo (wpAny_pure (wpAny_pure ?_)))
  refine wpAny_bind (wpAny_seqItems o5 rfl ?_)
  refine wpAny_bind (wpAny_newTuple ?_)
  have z5 : g5.objs.size = t.heap.objs.size := by rw [b5.1, b4.1, b3.1, b2.1, b1.1]
  have c5 : IsZip g5 c tI tO .ellipsis := b5.extBut _ _ D.TOz.symm (b4.extBut _ _ D.i2z.symm (b3.extBut _ _ D.TOz.symm (b2.extBut _ _ D.i1z.symm c1)))
  have st5 : StayZ c tO ia ib t.heap g5 := fun b o n1 n2 n3 n4 e => b5.extBut _ _ n2 (b4.extBut _ _ n4 (b3.extBut _ _ n2 (b2.extBut _ _ n3 (b1.extBut _ _ n1 e))))
  have sa5 : Src m g5 ia la (k + 1) xs := ((a2.ext b3.extBut D.TOi1.symm D.l1TO).ext b4.extBut D.i12 D.l1i2).ext b5.extBut D.TOi1.symm D.l1TO
  have sb5 : Src n g5 ib lb (j + 1) ys := a4.ext b5.extBut D.TOi2.symm D.l2TO
  have cl : c < g5.objs.size := Heap.lt_size c5
  show wpAny _ _ (Builtin.SmallTypes.ownedTupleHandOut (.ref c) (.ref g5.objs.size) >>= _) _ _ _
  refine wpAny_bind ?_
  unfold Builtin.SmallTypes.ownedTupleHandOut
  have c6 : IsZip (g5.push { cls := .type "tuple", data := .seq #[x, y] }) c tI tO .ellipsis := Heap.get?_push_of_some _ c5
  refine wpAny_bind (wpAny_setField_rec c6 (by simp) fun g7 c7 b7 => ?_)
  replace c7 : IsZip g7 c tI tO (rawInt g5.objs.size) := c7
  refine wpAny_setField_rec c7 (by simp) fun g8 c8 b8 => ?_
  replace c8 : IsZip g8 c tI tO (rawInt g5.objs.size) := c8
  have up : ∀ b o, b ≠ c → g5.get? b = some o → g8.get? b = some o := fun b o n1 e => b8.extBut _ _ n1 (b7.extBut _ _ n1 (Heap.get?_push_of_some _ e))
  have p8 : IsPair g8 g5.objs.size x y := b8.extBut _ _ (Nat.ne_of_gt cl) (b7.extBut _ _ (Nat.ne_of_gt cl) (Heap.get?_push_size _ rfl))
  have z8 : g8.objs.size = g5.objs.size + 1 := by rw [b8.1, b7.1, Heap.size_push]
  rw [z5] at c8 p8 z8
  refine wpAny_pure ⟨_, rfl, ?_⟩
  show Q (.ref g5.objs.size) _
  rw [z5]
  exact go g8 c8 (up _ _ D.TOz o5) (sa5.up (fun o e => up _ o D.i1z e) fun o e => up _ o D.l1z e) (sb5.up (fun o e => up _ o D.i2z e) fun o e => up _ o D.l2z e) p8 z8 fun b o n1 n2 n3 n4 e => up b o n1 (st5 b o n1 n2 n3 n4 e)
theorem zx_stop {Q : Fin → Shared → Prop} (cool : A.handled = none) (D : ZipApart c tI tO ia ib la lb) (hc : IsZip t.heap c tI tO .none) (hI : IsPair t.heap tI (.ref ia) (.ref ib)) (hO : IsPair t.heap tO u v)
    (sa : Src m t.heap ia la k xs) (sb : Src n t.heap ib lb j ys) (hend : xs[k]? = none ∨ ys[j]? = none)
    (go : ∀ g e, StayZ c tO ia ib t.heap g → (∃ o, g.get? e = some o ∧ o.cls = .type "StopIteration") → E (.ref e) { t with heap := g }) :
    wpAny (model prog w) A (Builtin.«zip.__next__» ⟨[.ref c], []⟩) Q E t := by
  show wpAny _ _ (field (.ref c) 2 >>= _) _ _ _
  refine wpAny_bind (wpAny_field hc rfl (x := .bool false) rfl ?_)
  show wpAny _ _ (field (.ref c) 3 >>= _) _ _ _
  refine wpAny_bind (wpAny_field hc rfl (x := .ref tI) rfl ?_)
  refine wpAny_bind (wpAny_seqItems hI rfl ?_)
  show wpAny _ _ (Builtin.SmallTypes.ownedTupleIsFree (.ref c) >>= _) _ _ _
  refine wpAny_bind ?_
  unfold Builtin.SmallTypes.ownedTupleIsFree
  refine wpAny_bind (wpAny_field hc rfl (x := .none) rfl (wpAny_pure ?_))
  rw [if_pos rfl]
  refine wpAny_bind (wpAny_rule ?_)
  refine wpAny_bind (wpAny_field hc rfl (x := .ref tO) rfl ?_)
  refine wpAny_bind (wpAny_setField_rec hc (by simp) fun g1 c1 b1 => ?_)
  replace c1 : IsZip g1 c tI tO .ellipsis := c1
  refine wpAny_bind ?_
  simp only [List.forIn_cons, List.forIn_nil, List.zipIdx_cons, List.zipIdx_nil]
  refine wpAny_bind (wpAny_bind (wpAny_onRaise ?_))
  show wpAny _ _ (Builtin.SmallTypes.nextOf (.ref ia) >>= _) _ _ _
  cases ex : xs[k]? with
  | none =>
    refine wpAny_bind (src_stop cool (sa.ext b1.extBut D.i1z D.l1z) ex fun g2 e b2 he => ?_)
    obtain ⟨oe, e1, e2⟩ := he
    have c2 : IsZip g2 c tI tO .ellipsis := b2 _ _ D.i1z.symm c1
    have ne : e ≠ c := fun z => by subst z; rw [c2] at e1; cases e1; simp at e2
    refine wpAny_setField_rec c2 (by simp) fun g3 _ b3 => go g3 e (fun b o n1 _ n3 _ q => b3.extBut _ _ n1 (b2 _ _ n3 (b1.extBut _ _ n1 q))) ⟨oe, b3.extBut _ _ ne e1, e2⟩
  | some x =>
    have ey : ys[j]? = none := by rcases hend with q | q; rw [ex] at q; cases q; exact q
    refine wpAny_bind (src_next (sa.ext b1.extBut D.i1z D.l1z) ex D.l1i1 fun g2 a2 b2 => wpAny_pure ?_)
    have o2 : IsPair g2 tO u v := b2.extBut _ _ D.TOi1 (b1.extBut _ _ D.TOz hO)
    refine wpAny_bind (wpAny_seqItems o2 rfl ?_)
    refine wpAny_bind (wpAny_updateSeq_pair o2 fun g3 o3 b3 => ?_)
    refine wpAny_bind (wpAny_letGo (wpAny_pure ?_))
    refine wpAny_bind (wpAny_bind (wpAny_onRaise ?_))
    show wpAny _ _ (Builtin.SmallTypes.nextOf (.ref ib) >>= _) _ _ _
    refine wpAny_bind (src_stop cool (((sb.ext b1.extBut D.i2z D.l2z).ext b2.extBut D.i12.symm D.l2i1).ext b3.extBut D.TOi2.symm D.l2TO) ey fun g4 e b4 he => ?_)
    obtain ⟨oe, e1, e2⟩ := he
    have c4 : IsZip g4 c tI tO .ellipsis := b4 _ _ D.i2z.symm (b3.extBut _ _ D.TOz.symm (b2.extBut _ _ D.i1z.symm c1))
    have ne : e ≠ c := fun z => by subst z; rw [c4] at e1; cases e1; simp at e2
    refine wpAny_setField_rec c4 (by simp) fun g5 _ b5 => go g5 e (fun b o n1 n2 n3 n4 q => b5.extBut _ _ n1 (b4 _ _ n4 (b3.extBut _ _ n2 (b2.extBut _ _ n3 (b1.extBut _ _ n1 q))))) ⟨oe, b5.extBut _ _ ne e1, e2⟩
theorem zx_next {x y : Value} {Q : Option Value → Shared → Prop} (D : ZipApart c tI tO ia ib la lb) (hc : IsZip t.heap c tI tO .none) (hI : IsPair t.heap tI (.ref ia) (.ref ib)) (hO : IsPair t.heap tO u v)
    (sa : Src m t.heap ia la k xs) (sb : Src n t.heap ib lb j ys) (ex : xs[k]? = some x) (ey : ys[j]? = some y)
    (go : ∀ g, IsZip g c tI tO (rawInt t.heap.objs.size) → IsPair g tO x y → Src m g ia la (k + 1) xs → Src n g ib lb (j + 1) ys → IsPair g t.heap.objs.size x y → g.objs.size = t.heap.objs.size + 1 → StayZ c tO ia ib t.heap g → Q (some (.ref t.heap.objs.size)) { t with heap := g }) :
    wpAny (model prog w) A (pyNext (.ref c)) Q E t := by
  have ty : t.TypeIs (.ref c) "zip" := ⟨_, hc, rfl⟩
  unfold pyNext
  exact wpAny_bind (wpAny_attempt (wpAny_callSpecial?_slot (name := Str.ofString "__next__") ty F.slot_zip_next
    (wpAny_call_entry F.slot_zip_next ty F.entry_zip_next (zx_item D hc hI hO sa sb ex ey fun g p1 p2 p3 p4 p5 p6 p7 => wpAny_pure (go g p1 p2 p3 p4 p5 p6 p7)) (F.args_zip_next_1 _))))
theorem zx_done {Q : Option Value → Shared → Prop} (cool : A.handled = none) (D : ZipApart c tI tO ia ib la lb) (hc : IsZip t.heap c tI tO .none) (hI : IsPair t.heap tI (.ref ia) (.ref ib)) (hO : IsPair t.heap tO u v)
    (sa : Src m t.heap ia la k xs) (sb : Src n t.heap ib lb j ys) (hend : xs[k]? = none ∨ ys[j]? = none) (go : ∀ g, StayZ c tO ia ib t.heap g → Q none { t with heap := g }) :
    wpAny (model prog w) A (pyNext (.ref c)) Q E t := by
  have ty : t.TypeIs (.ref c) "zip" := ⟨_, hc, rfl⟩
  unfold pyNext
  refine wpAny_bind (wpAny_attempt (wpAny_callSpecial?_slot (name := Str.ofString "__next__") ty F.slot_zip_next
    (wpAny_call_entry F.slot_zip_next ty F.entry_zip_next (zx_stop cool D hc hI hO sa sb hend fun g e st he => ?_) (F.args_zip_next_1 _))))
  obtain ⟨o, e1, e2⟩ := he
  refine wpAny_bind (wpAny_isInstance (T := "StopIteration") (b := true) ⟨o, e1, e2⟩ isSubtype_stop ?_)
  exact wpAny_pure (go _ st)
end
end DL

namespace DL
open PySem PySem.Spec PyProof.Rows L2
open PySem.Sem (wp)
/-! zip(tuple, list): made, turned, walked -/
abbrev zg1 (g : Heap) (la : Addr) : Heap := g.push { cls := .type "tuple_iterator", data := .fields #[.ref la, .int 0 0] }
abbrev zg2 (g : Heap) (la lb : Addr) : Heap := (zg1 g la).push { cls := .type "list_iterator", data := .fields #[.ref lb, .int 0 0] }
abbrev zg3 (g : Heap) (la lb : Addr) : Heap := (zg2 g la lb).push { cls := .type "tuple", data := .seq #[.ref g.objs.size, .ref (zg1 g la).objs.size] }
abbrev zg4 (g : Heap) (la lb : Addr) : Heap := (zg3 g la lb).push { cls := .type "tuple", data := .seq #[.none, .none] }
abbrev zg5 (g : Heap) (la lb : Addr) : Heap := (zg4 g la lb).push { cls := .type "zip", data := .fields #[.none, .bool false, .bool false, .ref (zg2 g la lb).objs.size, .ref (zg3 g la lb).objs.size] }
theorem meets_zg (la lb : Addr) (xs ys : Array Value) :
    Meets (Builtin.«zip.__new__» ⟨[.type "zip", .ref la, .ref lb], []⟩) (fun _ R t => t.heap.IsTuple la xs ∧ t.heap.IsList lb ys ∧ R (.ok (.ret (.ref (zg4 t.heap la lb).objs.size))) { t with heap := zg5 t.heap la lb }) :=
  .of_wp fun prog w A R t q => by
    obtain ⟨hp, g, d, tk, os⟩ := t
    obtain ⟨q1, q2, q⟩ := q
    have hz := sub_zip
    have ta : Heap.IsTuple (Shared.heap ⟨hp, g, d, tk, os⟩) la xs := q1
    have tb : Heap.IsList (Shared.heap ⟨hp.push { cls := .type "tuple_iterator", data := .fields #[.ref la, .int 0 0] }, g, d, tk, os⟩) lb ys := Heap.IsList.push q2 _
    wp_walk using wpAny_pyIter_tuple ta, wpAny_pyIter_list tb
    exact ⟨_, rfl, q⟩
section
variable {prog : Program} {w : World} {A : Around} {E : Value → Shared → Prop} {t : Shared}
theorem call_zg {la lb : Addr} {xs ys : Array Value} {Q : Value → Shared → Prop} (q1 : t.heap.IsTuple la xs) (q2 : t.heap.IsList lb ys)
    (go : ∀ g, IsZip g (t.heap.objs.size + 4) (t.heap.objs.size + 2) (t.heap.objs.size + 3) .none → IsPair g (t.heap.objs.size + 2) (.ref t.heap.objs.size) (.ref (t.heap.objs.size + 1)) →
      IsPair g (t.heap.objs.size + 3) .none .none → g.IsTupleIter t.heap.objs.size la 0 → g.IsListIter (t.heap.objs.size + 1) lb 0 → (∀ b o, t.heap.get? b = some o → g.get? b = some o) → Q (.ref (t.heap.objs.size + 4)) { t with heap := g }) :
    wpAny (model prog w) A (call (.type "zip") [.ref la, .ref lb]) Q E t := by
  have s1 : (zg1 t.heap la).objs.size = t.heap.objs.size + 1 := Heap.size_push ..
  have s2 : (zg2 t.heap la lb).objs.size = t.heap.objs.size + 2 := by rw [Heap.size_push, s1]
  have s3 : (zg3 t.heap la lb).objs.size = t.heap.objs.size + 3 := by rw [Heap.size_push, s2]
  have s4 : (zg4 t.heap la lb).objs.size = t.heap.objs.size + 4 := by rw [Heap.size_push, s3]
  have p5 : (zg5 t.heap la lb).get? (zg4 t.heap la lb).objs.size = some _ := Heap.get?_push_size _ rfl
  have p4 : (zg5 t.heap la lb).get? (zg3 t.heap la lb).objs.size = some _ := Heap.get?_push_of_some _ (Heap.get?_push_size _ rfl)
  have p3 : (zg5 t.heap la lb).get? (zg2 t.heap la lb).objs.size = some _ := Heap.get?_push_of_some _ (Heap.get?_push_of_some _ (Heap.get?_push_size _ rfl))
  have p2 : (zg5 t.heap la lb).get? (zg1 t.heap la).objs.size = some _ := Heap.get?_push_of_some _ (Heap.get?_push_of_some _ (Heap.get?_push_of_some _ (Heap.get?_push_size _ rfl)))
  have p1 : (zg5 t.heap la lb).get? t.heap.objs.size = some _ := Heap.get?_push_of_some _ (Heap.get?_push_of_some _ (Heap.get?_push_of_some _ (Heap.get?_push_of_some _ (Heap.get?_push_size _ rfl))))
  rw [s2, s3, s4] at p5
  rw [s3] at p4
  rw [s1, s2] at p3
  rw [s1] at p2
  have fin : Q (.ref (t.heap.objs.size + 4)) { t with heap := zg5 t.heap la lb } := go _ p5 p3 p4 ⟨_, p1, rfl, rfl⟩ ⟨_, p2, rfl, rfl⟩ fun b o q =>
    Heap.get?_push_of_some _ (Heap.get?_push_of_some _ (Heap.get?_push_of_some _ (Heap.get?_push_of_some _ (Heap.get?_push_of_some _ q))))
  refine callType_new F.called_zip (by decide) (F.typeCall_zip_2 _ _) (F.newCall_zip_2 _ _) (fun obj => F.args_object_init_3 obj _ _) F.entry_zip_new (meets_zg la lb xs ys) ⟨q1, q2, ?_⟩
  show _ ∧ _
  rw [s4]
  exact ⟨⟨_, p5, rfl⟩, fin⟩
end
/-- the tuple at a and the list at b, the items in new pairs -/
def ItzX (K : PySem.W.Frag) (a b : Addr) : It :=
  ⟨fun i H => ∃ us vs u v, SqT K H a us ∧ SqL K H b vs ∧ us[i]? = some u ∧ vs[i]? = some v,
    fun i H z H' => ∃ T u v, z = .ref T ∧ H T = none ∧ H' = upd H T (.tup [u, v]) ∧ (∀ us, SqT K H a us → us[i]? = some u) ∧ ∀ vs, SqL K H b vs → vs[i]? = some v,
    fun i H => ∃ us vs, SqT K H a us ∧ SqL K H b vs ∧ (us.length ≤ i ∨ vs.length ≤ i)⟩
def ZSt (a b c tI tO ia ib : Addr) (i : Nat) (g : Heap) : Prop := IsZip g c tI tO .none ∧ IsPair g tI (.ref ia) (.ref ib) ∧ (∃ x y, IsPair g tO x y) ∧ g.IsTupleIter ia a i ∧ g.IsListIter ib b i
theorem five {c tI tO ia ib b : Addr} (h : b ∈ [c, tI, tO, ia, ib]) : b = c ∨ b = tI ∨ b = tO ∨ b = ia ∨ b = ib := by simpa using h
theorem turn_zx {P : Program} {w : World} {K : PySem.W.Frag} {elts : List Expr} {kk : Nat} {tpos : Pos} {a b c tI tO ia ib : Addr} (D : ZipApart c tI tO ia ib a b) :
    Turn P w K (.Tuple elts kk tpos) (ItzX K a b) [c, tI, tO, ia, ib] c (ZSt a b c tI tO ia ib) where
  mem := List.mem_cons_self
  obj := fun i g q d hd => by
    obtain ⟨qc, qI, ⟨x, y, qO⟩, ⟨o1, e1, _, d1⟩, ⟨o2, e2, _, d2⟩⟩ := q
    rcases five hd with z | z | z | z | z <;> rw [z]
    · exact ⟨_, qc, fun v z => nomatch z⟩
    · exact ⟨_, qI, fun v z => nomatch z⟩
    · exact ⟨_, qO, fun v z => nomatch z⟩
    · exact ⟨o1, e1, fun v z => by rw [d1] at z; cases z⟩
    · exact ⟨o2, e2, fun v z => by rw [d2] at z; cases z⟩
  keep := fun i g g' q k => by
    obtain ⟨qc, qI, ⟨x, y, qO⟩, q1, q2⟩ := q
    exact ⟨k c (by simp) _ qc, k tI (by simp) _ qI, ⟨x, y, k tO (by simp) _ qO⟩, q1.at fun o e => k ia (by simp) o e, q2.at fun o e => k ib (by simp) o e⟩
  item := by
    intro X e1 e2 e3 cool i pins t σ H E I fp q hg
    subst e1 e2 e3
    obtain ⟨qc, qI, ⟨x0, y0, qO⟩, q1, q2⟩ := q
    obtain ⟨us, vs, u, v, hu, hv, gu, gv⟩ := hg
    obtain ⟨xs, ra, pa, _⟩ := I.tuple hu
    obtain ⟨ys, rb, pb, _⟩ := I.list hv
    obtain ⟨x, hx, rx⟩ := ra.get gu
    obtain ⟨y, hy, ry⟩ := rb.get gv
    have lc : c < t.heap.objs.size := Heap.lt_size qc
    refine zx_next (m := true) (n := false) D qc qI qO ⟨q1, pa⟩ ⟨q2, pb.isList⟩ (x := x) (y := y) (by simpa using hx) (by simpa using hy) fun g c' O' sa sb T' sz st => ?_
    refine ⟨_, rfl, wpAny_letOwnedTupleGo_zip (s := { t with heap := g }) c' fun g2 c2 sb2 => ?_⟩
    have T2 : g2.get? t.heap.objs.size = some { cls := .type "tuple", data := .seq #[x, y] } := (sb2.2 _ (Nat.ne_of_gt lc)).trans T'
    have new : ObjOk X.prog X.w (upd H t.heap.objs.size (.tup [u, v])) g2 t.heap.objs.size (.tup [u, v]) := ⟨by show 2 ≤ sizeLine; decide, [x, y], .cons rx (.cons ry .nil), ⟨_, T2, rfl, _, rfl⟩⟩
    have I1 : Inv X pins σ (upd H t.heap.objs.size (.tup [u, v])) { t with heap := g2 } :=
      I.turnedNew (t' := t.toks) (ch := [c, tI, tO, ia, ib]) (fun d o nd e => (sb2.2 d (fun z => nd (by simp [z]))).trans (st d o (fun z => nd (by simp [z])) (fun z => nd (by simp [z])) (fun z => nd (by simp [z])) (fun z => nd (by simp [z])) e)) fp (Nat.le_refl _) new
    refine ⟨.ref t.heap.objs.size, _, I1, rfl, ⟨_, u, v, rfl, I.hok.fresh (Nat.le_refl _), rfl, fun l hl => by rw [I.tuple_inj hl hu]; exact gu, fun l hl => by rw [I.list_inj hl hv]; exact gv⟩, ⟨c2, ?_, ⟨x, y, ?_⟩, ?_, ?_⟩, fun d hd => ?_⟩
    · exact (sb2.2 _ D.TIz).trans (st _ _ D.TIz D.TITO D.TIi1 D.TIi2 qI)
    · exact (sb2.2 _ D.TOz).trans O'
    · exact sa.1.at fun o e => (sb2.2 _ D.i1z).trans e
    · exact sb.1.at fun o e => (sb2.2 _ D.i2z).trans e
    · have ld : d < t.heap.objs.size := by
        rcases five hd with z | z | z | z | z <;> rw [z]
        · exact lc
        · exact Heap.lt_size qI
        · exact Heap.lt_size qO
        · obtain ⟨_, e1, _⟩ := q1; exact Heap.lt_size e1
        · obtain ⟨_, e2, _⟩ := q2; exact Heap.lt_size e2
      rw [upd_ne (Nat.ne_of_lt ld)]
      exact (fp d hd).1
  done := by
    intro X e1 e2 e3 cool i pins t σ H E I fp q hg
    subst e1 e2 e3
    obtain ⟨qc, qI, ⟨x0, y0, qO⟩, q1, q2⟩ := q
    obtain ⟨us, vs, hu, hv, hend⟩ := hg
    obtain ⟨xs, ra, pa, _⟩ := I.tuple hu
    obtain ⟨ys, rb, pb, _⟩ := I.list hv
    have l1 := ra.length
    have l2 := rb.length
    have he : xs.toArray[i]? = none ∨ ys.toArray[i]? = none := by
      rcases hend with z | z
      · exact .inl (by simp; omega)
      · exact .inr (by simp; omega)
    exact zx_done (m := true) (n := false) (I.ok.hd cool) D qc qI qO ⟨q1, pa⟩ ⟨q2, pb.isList⟩ he fun g st => ⟨rfl, I.turnedL (t' := t.toks) (ch := [c, tI, tO, ia, ib]) (fun d o nd e =>
      st d o (fun z => nd (by simp [z])) (fun z => nd (by simp [z])) (fun z => nd (by simp [z])) (fun z => nd (by simp [z])) e) fp⟩
  self := fun A i s Q E q h => wpAny_pyIter_zip q.1 h
def iZipX (K : PySem.W.Frag) (ta : TA) : TI := fun σ H R => ta σ H fun ws H1 => ∃ a b us vs, ws = [.ref a, .ref b] ∧ SqT K H1 a us ∧ SqL K H1 b vs ∧ R (ItzX K a b) H1
theorem pi_zipX {X : Cx} {e e2 : Expr} {ta : TA} {p pos tpos : Pos} {elts : List Expr} {kk : Nat} (hg : Gl X "zip") (hm : X.mg "zip" = none) (ha : PA X [e, e2] ta)
    (hs : starEach [e, e2] X.env = (false, eval e X.env) :: starEach [e2] X.env := by rfl) (hpl : (backTo pos (starEach [e2] X.env)).any (·.1) = false := by rfl) :
    PI X (.Tuple elts kk tpos) (.Call (.Name "zip" p) [e, e2] [] pos) (iZipX X.K ta) := by
  refine ⟨fun pins t σ H R I q => ?_⟩
  refine Call_ (ld_blt I hg hm PyProof.Rows.boot_zip (PyProof.Rows.callWith_type1 (thn (ha.run pos pins t σ H _ I q) fun ws t1 ⟨zs, H1, I1, r1, q1⟩ => ?_) hs hpl))
  obtain ⟨a, b, us, vs, ez, hu, hv, q1⟩ := q1
  subst ez
  cases r1 with
  | cons r rr =>
    cases rr with
    | cons r' rr =>
      cases rr; cases r; cases r'
      obtain ⟨xs, ra, pa, _⟩ := I1.tuple hu
      obtain ⟨ys, rb, pb, _⟩ := I1.list hv
      obtain ⟨oa, ea, _⟩ := id pa
      refine call_zg (show t1.heap.IsTuple a xs.toArray from pa) pb.isList fun g zc zI zO za zb st => wpAny_pyIter_zip zc ?_
      refine ⟨t1.heap.objs.size + 4, [t1.heap.objs.size + 4, t1.heap.objs.size + 2, t1.heap.objs.size + 3, t1.heap.objs.size, t1.heap.objs.size + 1], _, _, H1, rfl, I1.kept (t' := t1.toks) st,
        turn_zx (PySem.W.ktu_apart t1.heap.objs.size a b (Heap.lt_size ea) pb.lt), ⟨zc, zI, ⟨_, _, zO⟩, za, zb⟩, fun d hd => ?_, q1⟩
      have ld : t1.heap.objs.size ≤ d := by
        rcases five hd with z | z | z | z | z <;> rw [z] <;> first | exact Nat.le_refl _ | exact Nat.le_add_right _ _
      exact I1.fpOk ld (I1.hok.fresh ld)
section
variable {K : PySem.W.Frag} {H0 : Hp} {S0 : Sto} {a b : Addr} {xs ys : List D} {us vs : List V}
theorem jrep_zipX (ha : ∀ H S, Wd K H S → Keep H0 S0 H S → SqT K H a us ∧ RepL K H S us xs) (hb : ∀ H S, Wd K H S → Keep H0 S0 H S → SqL K H b vs ∧ RepL K H S vs ys) : JRep K (ItzX K a b) H0 S0 (zipD xs ys) := fun H S w st => by
  obtain ⟨h1, h2⟩ := ha H S w st
  obtain ⟨h3, h4⟩ := hb H S w st
  refine ⟨fun i d hd => ?_, ⟨us, vs, h1, h3, by rw [zipD_len, h2.length, h4.length]; omega⟩⟩
  obtain ⟨x, y, hx, hy, rfl⟩ := zipD_get hd
  obtain ⟨u, hu, ru⟩ := h2.get hx
  obtain ⟨v, hv, rv⟩ := h4.get hy
  refine ⟨⟨us, vs, u, v, h1, h3, hu, hv⟩, fun z H' q => ?_⟩
  obtain ⟨T, x', y', rfl, hT, rfl, e1, e2⟩ := q
  have e1 := e1 _ h1
  have e2 := e2 _ h3
  rw [hu] at e1; rw [hv] at e2
  cases e1; cases e2
  have st2 := Step.new (o := .tup [u, v]) w hT
  exact ⟨.tup upd_same (w.free hT) (.cons (ru.mono st2) (.cons (rv.mono st2) .nil)), w.new hT, st2⟩
end
def dZipX (t u : TD) : TDI := fun ρ S Q => t ρ S fun x S1 => u ρ S1 fun y S2 => match x, y with
  | .tup xs, .lst ys => Q (zipD xs ys) S2
  | _, _ => False
section
variable {X : Cx} {K : PySem.W.Frag} {e e2 : Expr} {te tu : TE} {t u : TD} {p p2 pos tpos : Pos} {elts : List Expr} {kk : Nat}
theorem k_diZipX (hg : Gl X "zip") (hm : X.mg "zip" = none) (he : DE X e te t) (hu : DE X e2 tu u) (hK : X.K = K := by rfl)
    (hs : starEach [e, e2] X.env = (false, eval e X.env) :: starEach [e2] X.env := by rfl) (hs2 : starEach [e2] X.env = (false, eval e2 X.env) :: starEach [] X.env := by rfl) (hpl : (backTo pos (starEach [e2] X.env)).any (·.1) = false := by rfl) :
    DI X (.Tuple elts kk tpos) (.Call (.Name "zip" p) [e, e2] [] pos) (iZipX K (tCons te (tCons tu tNil))) (dZipX t u) := by
  subst hK
  refine ⟨pi_zipX hg hm (pa_cons he.pe (pa_cons hu.pe pa_nil hs2) hs) hs hpl, fun σ H ρ S Q R w rs q k => he.ab σ H ρ S _ _ w rs q fun v H1 x S1 r1 w1 s1 q1 => hu.ab σ H1 ρ S1 _ _ w1 (rs.mono s1) q1 fun z H2 y S2 r2 w2 s2 q2 => ?_⟩
  split at q2
  · obtain ⟨a, us, rfl, h1⟩ := rep_tup_stay (r1.mono s2)
    obtain ⟨b, vs, rfl, h2⟩ := rep_lst_stay r2
    exact ⟨a, b, us, vs, rfl, (h1 _ _ w2 Keep.refl).1, (h2 _ _ w2 Keep.refl).1, k _ _ _ _ w2 (s1.trans s2) (jrep_zipX h1 h2) q2⟩
  · exact q2.elim
theorem for_zipX {tb : TDS} {g : TDG} {E : DEnds} {ρ : DSt} {S : Sto} {xs ys : List D} (ht : ∀ Q : DQ, Q (.tup xs) S → t ρ S Q) (hu : ∀ Q : DQ, Q (.lst ys) S → u ρ S Q) (W : Nat → DSt → Sto → Prop) (h0 : W 0 ρ S)
    (hs : ∀ (i : Nat) (x y : D) ρ' S', xs[i]? = some x → ys[i]? = some y → W i ρ' S' → g (.tup [x, y]) ρ' S' fun ρ2 S2 => tb { E with nx := W (i + 1), ct := W (i + 1), bk := E.nx } ρ2 S2) (hd : ∀ ρ' S', W (min xs.length ys.length) ρ' S' → E.nx ρ' S') : dFor (dZipX t u) g tb E ρ S :=
  ⟨ht _ (hu _ ⟨W, h0, fun i d ρ' S' h w => by
    obtain ⟨x, y, h1, h2, rfl⟩ := zipD_get h
    exact hs i x y ρ' S' h1 h2 w, fun ρ' S' w => hd ρ' S' (by rw [zipD_len] at w; exact w)⟩)⟩
end
end DL

namespace DL
open PySem PySem.Spec PyProof.Rows L2
/-! ### a def with one keyword-only parameter that has an int as its default -/
abbrev putLast {α : Type} (us ws : List α) : List α := us ++ ws
structure FunKw (K : PySem.W.Frag) (mg : Str → Option Value) (x : Str) (st : Stmt) (ps : List Str) (n : Nat) (kw : Str) (d0 : Int) : Prop where
  ex : ∃ f fd ds, Fun K x x st f fd ∧ mg x = some (.ref f) ∧ KBn K fd ps n [kw] putLast putLast ∧ Vals [.int d0] ds ∧ Binds K fd ps ds
structure FnKw (P : Program) (w : World) (K : PySem.W.Frag) (mg : Str → Option Value) (base : Heap) (k : Nat) (x : Str) (n : Nat) (kw : Str) (d0 : Int) (sp : DSp) : Prop where
  ex : ∃ f fd ps ds, FnOk P w K mg base CX0 k f fd ps (toSp K sp) ∧ mg x = some (.ref f) ∧ PySem.W.keepIn K (.ref f) = true ∧ KBn K fd ps n [kw] putLast putLast ∧ Vals [.int d0] ds ∧ Binds K fd ps ds
theorem okFk {P : Program} {w : World} {K : PySem.W.Frag} {mg : Str → Option Value} {base : Heap} {x : Str} {st : Stmt} {N ps : List Str} {k n : Nat} {kw : Str} {d0 : Int} {sp : DSp} (F : FunKw K mg x st ps n kw d0) (Sc : FnScope N ps (defScope st)) (len : ∀ ds S Q, sp ds S Q → ds.length = ps.length)
    (hbody : ∀ (f : Addr) (cdv : Value) (A : Around) (outer : List Env) (s : Shared) (H : Hp) (E : XK), Room k (A.deeper (envOfC x (defScope st) s.heap.objs.size f cdv)) →
      ∃ ts td, DSs (cxOf CX0 P w K mg base N x (defScope st) f cdv A outer s H E).nox (defBody st) ts td ∧ ∀ ds S Q, sp ds S Q → td { nx := fun _ S' => Leave Q .non S', rt := Leave Q } (dstart N ds) S) : FnKw P w K mg base (k + 1) x n kw d0 sp := by
  obtain ⟨f, fd, ds, F, hm, hb, hv, hb2⟩ := F.ex
  exact ⟨f, fd, ps, ds, okD F Sc len (hbody f), hm, F.kp, hb, hv, hb2⟩
def dCallK (n : Nat) (sp : DSp) (t : TDA) (u : TD) : TD := fun ρ S Q => t ρ S fun ds S1 => u ρ S1 fun z S2 => ds.length = n ∧ sp (ds ++ [z]) S2 Q
def dCallD (d0 : Int) (sp : DSp) (t : TDA) : TD := fun ρ S Q => t ρ S fun ds S1 => sp (ds ++ [.int d0]) S1 Q
section
variable {X : Cx} {K : PySem.W.Frag} {k n : Nat} {x kw : Str} {d0 : Int} {sp : DSp} {p pos kp : Pos} {e ek : Expr} {es : List Expr} {t : TA} {tk : TE} {da : TDA} {dk : TD}
theorem k_fnKw (F : FnKw X.prog X.w X.K X.mg X.base k x n kw d0 sp) (hr : Room k X.A) (hg : Gl X x) (ha : DA X (e :: es) t da) (hk : DE X ek tk dk) (hK : X.K = K := by rfl)
    (hall : (backToKw pos (keywordEach [⟨some kw, ek, kp⟩] X.env)).all (·.1.isSome) = true := by rfl) (hks : (backToKw pos (keywordEach [⟨some kw, ek, kp⟩] X.env)).filterMap (·.1) = [kw] := by rfl)
    (hdb : (x == ("__debug__" : Str)) = false := by decide) (he : starEach (e :: es) X.env = (false, eval e X.env) :: starEach es X.env := by rfl)
    (hpl : ((backTo pos (starEach (e :: es) X.env)).any (·.1) || (backToKw pos (keywordEach [⟨some kw, ek, kp⟩] X.env)).any (·.1.isNone)) = false := by rfl) :
    DE X (.Call (.Name x p) (e :: es) [⟨some kw, ek, kp⟩] pos) (tCallN n [kw].length (toSp K sp) putLast E0 t (tCons tk tNil)) (dCallK n sp da dk) := by
  subst hK
  obtain ⟨f, fd, ps, ds, F, hm, hkp, hb, hv, hb2⟩ := F.ex
  refine ⟨pe_callN F hr hg hm hkp hb pass0 ha.pa (pk_cons hk.pe pk_nil) hall hks hdb he hpl, fun σ H ρ S Q Qv w rs q kq => ha.ab σ H ρ S _ _ w rs q fun vs H1 ds S1 r1 w1 s1 q1 => hk.ab σ H1 ρ S1 _ _ w1 (rs.mono s1) q1 fun z H2 dz S2 r2 w2 s2 q2 => ?_⟩
  exact ⟨by rw [r1.length]; exact q2.1, rfl, ds ++ [dz], S2, Q, (r1.mono s2).append (.cons r2 .nil), w2, q2.2, fun v H' r S' r3 w3 s3 q3 => kq _ _ _ _ r3 w3 ((s1.trans s2).trans s3) q3⟩
theorem k_fnDf (F : FnKw X.prog X.w X.K X.mg X.base k x n kw d0 sp) (hr : Room k X.A) (hg : Gl X x) (ha : DA X (e :: es) t da) (hK : X.K = K := by rfl)
    (hdb : (x == ("__debug__" : Str)) = false := by decide) (he : starEach (e :: es) X.env = (false, eval e X.env) :: starEach es X.env := by rfl) (hpl : (backTo pos (starEach es X.env)).any (·.1) = false := by rfl) :
    DE X (.Call (.Name x p) (e :: es) [] pos) (tCall (toSp K sp) [.int d0] E0 t) (dCallD d0 sp da) := by
  subst hK
  obtain ⟨f, fd, ps, ds, F, hm, hkp, hb, hv, hb2⟩ := F.ex
  exact ⟨pe_call F hr hg hm hkp hb2 hv pass0 ha.pa hdb he hpl, fun σ H ρ S Q Qv w rs q kq => ha.ab σ H ρ S _ _ w rs q fun vs H1 ds S1 r1 w1 s1 q1 =>
    ⟨ds ++ [.int d0], S1, Q, r1.append (.cons (.int d0) .nil), w1, q1, fun v H' r S' r3 w3 s3 q3 => kq _ _ _ _ r3 w3 (s1.trans s3) q3⟩⟩
end
end DL

namespace DL
open PySem PySem.Spec PyProof.Rows L2
/-! ### len of a dict; d.get(y) -/
structure DctLen (S : Sto) (x : D) (Q : Nat → Prop) : Prop where
  get : ∃ a, x = .ref a ∧ ((∃ kvs, S a = some (.dK kvs) ∧ Q kvs.length) ∨ ∃ kvs, S a = some (.dT kvs) ∧ Q kvs.length)
theorem DctLen.t {S : Sto} {a : Addr} {kvs : List (List Key × D)} {Q : Nat → Prop} (h : S a = some (.dT kvs)) (q : Q kvs.length) : DctLen S (.ref a) Q := ⟨a, rfl, .inr ⟨kvs, h, q⟩⟩
theorem DctLen.k {S : Sto} {a : Addr} {kvs : List (Key × D)} {Q : Nat → Prop} (h : S a = some (.dK kvs)) (q : Q kvs.length) : DctLen S (.ref a) Q := ⟨a, rfl, .inl ⟨kvs, h, q⟩⟩
def rLenDct : List V → Hp → VK → Prop := fun xs H Q => (∃ a kvs, xs = [V.ref a] ∧ H a = some (.dK kvs) ∧ Q (.int kvs.length) H) ∨ rLenT xs H Q
def dLenDct (t : TD) : TD := fun ρ S Q => t ρ S fun x S1 => DctLen S1 x fun n => Q (.int n) S1
def dDGet1 (td ty : TD) : TD := fun ρ S Q => td ρ S fun x S1 => dDGet2.IsDct S1 x fun _ => ty ρ S1 fun y S2 => LookP S2 x y fun o => Q (o.getD .non) S2
section
variable {X : Cx} {p pos apos : Pos} {o e : Expr} {te ty : TE} {t d dy : TD}
theorem de_lenDct (hg : Gl X "len") (hm : X.mg "len" = none) (he : DE X e te t) (he1 : starEach [e] X.env = (false, eval e X.env) :: starEach [] X.env := by rfl) (hpl : (backTo pos (starEach [] X.env)).any (·.1) = false := by rfl) :
    DE X (.Call (.Name "len" p) [e] [] pos) (tCB rLenDct (tCons te tNil)) (dLenDct t) := by
  have cr : CallR X (.builtin "len") rLenDct := by
    intro pins s σ H xs us Q I r h
    rcases h with h | h
    · exact call_lenD pins s σ H xs us Q I r h
    · exact call_len_dT pins s σ H xs us Q I r h
  refine ⟨pe_callB cr hg hm bb_len (pa_cons he.pe pa_nil he1) (by decide) (by decide) he1 hpl, fun σ H ρ S Q Qv w rs q k => he.ab σ H ρ S _ _ w rs q fun v H1 x S1 r1 w1 s1 q1 => ?_⟩
  obtain ⟨a, rfl, ⟨kvs, h, q2⟩ | ⟨kvs, h, q2⟩⟩ := q1.get
  · cases r1
    obtain ⟨vs, e1, r⟩ := w1 a _ (vis_of h).1
    refine .inl ⟨a, vs, rfl, e1, ?_⟩
    rw [repKV_len r]
    exact k _ _ _ _ (.int _) w1 s1 q2
  · cases r1
    obtain ⟨vs, e1, r⟩ := w1 a _ (vis_of h).1
    refine .inr ⟨a, vs, rfl, e1, ?_⟩
    rw [repKV_len r]
    exact k _ _ _ _ (.int _) w1 s1 q2
theorem de_dget1 (hu : X.A.units + 1 < cLine) (ho : DE X o te d) (he : DE X e ty dy) (m : M1 X o "get" apos e pos := by exact ⟨rfl, rfl, rfl, rfl⟩) : DE X (.Call (.Attribute o "get" apos) [e] [] pos) (tDGet1 te ty) (dDGet1 d dy) :=
  ⟨pe_dget1 hu ho.pe he.pe m, fun σ H ρ S Q Qv w rs q k => ho.ab σ H ρ S _ _ w rs q fun x H1 dx S1 r1 w1 s1 q1 => by
    obtain ⟨a, rfl, hd, q1⟩ := q1
    cases r1
    refine ⟨a, rfl, ?_, he.ab σ H1 ρ S1 _ _ w1 (rs.mono s1) q1 fun y H2 dy S2 r2 w2 s2 q2 => ?_⟩
    · rcases hd with ⟨kvs, h⟩ | ⟨kvs, h⟩
      · obtain ⟨vs, e, _⟩ := w1 a _ (vis_of h).1; exact .inl ⟨_, .inl e⟩
      · obtain ⟨vs, e, _⟩ := w1 a _ (vis_of h).1; exact .inr ⟨_, .inl e⟩
    · obtain ⟨a', ov, od, e1, e2, g, ro, q4, _, _⟩ := look_get w2 (.ref a) r2 q2
      cases e2
      refine ⟨ov, g, ?_⟩
      cases ov with
      | none => cases od with
        | none => exact k _ _ _ _ .non w2 (s1.trans s2) q4
        | some u => exact ro.elim
      | some u => cases od with
        | none => exact ro.elim
        | some u' => exact k _ _ _ _ ro w2 (s1.trans s2) q4⟩
end
end DL

namespace DL
open PySem PySem.Spec PyProof.Rows L2
/-! ### [.. for .. in .. for .. in .. if ..] -/
theorem wipe_set_in : ∀ (vs : List Nat) (τ : L2.St) (j : Nat), j ∈ vs → (L2.wipe τ vs).set j none = L2.wipe τ vs := fun vs => by
  induction vs with
  | nil => intro τ j h; cases h
  | cons v vs ih =>
    intro τ j h
    show ((L2.wipe τ vs).set v none).set j none = (L2.wipe τ vs).set v none
    by_cases e : v = j
    · subst e; rw [List.set_set]
    · rw [List.set_comm _ _ e, ih τ j (by rcases List.mem_cons.mp h with q | q; exact absurd q.symm e; exact q)]
theorem wipe_in (vs : List Nat) : ∀ (us : List Nat) (τ : L2.St), (∀ j ∈ us, j ∈ vs) → L2.wipe (L2.wipe τ vs) us = L2.wipe τ vs := fun us => by
  induction us with
  | nil => intro τ _; rfl
  | cons u us ih =>
    intro τ h
    show (L2.wipe (L2.wipe τ vs) us).set u none = _
    rw [ih τ fun j hj => h j (List.mem_cons_of_mem _ hj), wipe_set_in vs τ u (h u List.mem_cons_self)]
/-- the list under way -/
def LU (K : PySem.W.Frag) (H1 : Hp) (S1 : Sto) (C : Addr) (acc : List D) (H : Hp) (S : Sto) : Prop := ∃ us, H C = some (.lst us) ∧ RepL K H S us acc ∧ S C = some .hid ∧ Wd K H S ∧ Step H1 S1 H S
section
variable {K : PySem.W.Frag} {H1 H2 H3 : Hp} {S1 S2 S3 : Sto} {C : Addr} {acc : List D}
theorem LU.step (u : LU K H1 S1 C acc H2 S2) (w : Wd K H3 S3) (s : Step H2 S2 H3 S3) : LU K H1 S1 C acc H3 S3 := by
  obtain ⟨us, h, r, n, _, st⟩ := u
  obtain ⟨h3, n3⟩ := s.hid _ n
  exact ⟨us, h3.trans h, r.mono s, n3, w, st.trans s⟩
theorem LU.put {v : V} {d : D} (w1 : Wd K H1 S1) (hC : H1 C = none) (u : LU K H1 S1 C acc H2 S2) (r : Rep K H2 S2 v d) : ∃ us, H2 C = some (.lst us) ∧ us.length = acc.length ∧ LU K H1 S1 C (acc ++ [d]) (upd H2 C (.lst (us ++ [v]))) S2 := by
  obtain ⟨us, h, rl, n, w, st⟩ := u
  have kc : Keep H2 S2 (upd H2 C (.lst (us ++ [v]))) S2 := Keep.grow n
  have hC1 : ∀ a, S1 a = some .hid → a ≠ C := fun a e z => by rw [z, w1.free hC] at e; cases e
  refine ⟨us, h, rl.length, us ++ [v], upd_same, (rl.append (.cons r .nil)).monoK kc, n, w.grow n, ⟨st.keep.trans kc, fun a e => ?_⟩⟩
  obtain ⟨e1, e2⟩ := st.hid a e
  exact ⟨(upd_ne (hC1 a e)).trans e1, e2⟩
end
theorem rsK {K : PySem.W.Frag} {H H' : Hp} {S S' : Sto} {σ : L2.St} {ρ : DSt} (r : RepSt K H S σ ρ) (k : Keep H S H' S') : RepSt K H' S' σ ρ := paired_imp (fun a b h => by
  cases a with
  | none => cases b with
    | none => exact h
    | some d => exact h
  | some v => cases b with
    | none => exact h
    | some d => exact Rep.monoK k h) r
structure dLc2 (ti : TDI) (g : TDG) (tt : TDT) (ti1 : TDI) (g1 : TDG) (tt1 : TDT) (te : TD) (vs vs1 : List Nat) (ρ : DSt) (S : Sto) (Q : DQ) : Prop where
  go : ti ρ S fun L S1 => ∃ W : Nat → List D → Sto → Prop, W 0 [] S1 ∧
  (∀ i d acc S', L[i]? = some d → W i acc S' → g d (dwipe ρ vs) S' fun ρ2 S2 => tt ρ2 S2 fun b S3 => Br b (ti1 ρ2 S3 fun L1 S4 => ∃ W1 : Nat → List D → Sto → Prop, W1 0 acc S4 ∧
    (∀ j d1 acc1 S5, L1[j]? = some d1 → W1 j acc1 S5 → g1 d1 (dwipe ρ2 vs1) S5 fun ρ3 S6 => tt1 ρ3 S6 fun b1 S7 => Br b1 (te ρ3 S7 fun y S8 => SzOk (acc1.length + 1) ∧ W1 (j + 1) (acc1 ++ [y]) S8) (W1 (j + 1) acc1 S7)) ∧
    (∀ acc1 S5, W1 L1.length acc1 S5 → W (i + 1) acc1 S5)) (W (i + 1) acc S3)) ∧
  (∀ acc S', W L.length acc S' → Q (.lst acc) S')
theorem ab_lc2 {K : PySem.W.Frag} {wi wi1 : TI} {ti ti1 : TDI} {g g1 : TG} {dg dg1 : TDG} {is is1 : List Nat} {tt tt1 : TT} {dt dt1 : TDT} {te : TE} {de : TD} {vs vs1 : List Nat} (hi : AbI K wi ti) (hg : AbG K g dg is) (ht : AbT K tt dt) (hi1 : AbI K wi1 ti1) (hg1 : AbG K g1 dg1 is1) (ht1 : AbT K tt1 dt1) (he : Ab K te de) (hv : ∀ i ∈ is, i ∈ vs) (hv1 : ∀ i ∈ is1, i ∈ vs1) :
    Ab K (tLc2 wi g tt wi1 g1 tt1 te vs vs1) (dLc2 ti dg dt ti1 dg1 dt1 de vs vs1) :=
  fun σ H ρ S Q Qv w rs q k => hi σ H ρ S _ _ w rs q.go fun J H1 S1 L w1 s1 jr q1 => by
    obtain ⟨W, w0, hstep, hend⟩ := q1
    intro C hC
    have u0 : LU K H1 S1 C [] (upd H1 C (.lst [])) (updS S1 C .hid) := ⟨[], upd_same, .nil, updS_same, w1.newS hC (.inl ⟨_, upd_same⟩), Step.newS w1 hC⟩
    have v2 : vis (updS S1 C .hid) = vis S1 := vis_hid (w1.free hC)
    refine ⟨fun i m H' => i ≤ L.length ∧ m = L.length - i ∧ ∃ acc S', LU K H1 S1 C acc H' S' ∧ W i acc (vis S'), ⟨_, Nat.zero_le _, rfl, [], _, u0, by rw [v2]; exact w0⟩, ?_⟩
    rintro i m H' ⟨hil, rfl, acc, S', u', hw⟩
    have hu' := u'
    obtain ⟨us, hD, rl, hn, w', s'⟩ := hu'
    obtain ⟨hgo, hstop⟩ := jr H' S' w' s'.keep
    by_cases hlt : i < L.length
    · have hd : L[i]? = some L[i] := List.getElem?_eq_getElem hlt
      obtain ⟨go, hy⟩ := hgo i _ hd
      refine .inr ⟨go, fun H2 => ∃ acc S', LU K H1 S1 C acc H2 S' ∧ W (i + 1) acc (vis S'), fun H2 hN => ⟨L.length - (i + 1), by omega, hlt, rfl, hN⟩, fun x H2 y => ?_⟩
      obtain ⟨r2, w2, s2⟩ := hy x H2 y
      have rs0 : RepSt K H2 S' σ ρ := rs.mono ((s1.trans s').trans s2)
      refine hg x _ (L2.wipe σ vs) H2 (dwipe ρ vs) S' _ _ r2 w2 (rs0.wipe vs) (hstep i _ acc (vis S') hd hw) fun σ3 H3 ρ3 S3 rs3 w3 s3 hwp q3 => ⟨by rw [hwp vs hv]; exact wipe_in vs vs σ fun _ h => h, ?_⟩
      have u3 := u'.step w3 (s2.trans s3)
      refine ht σ3 H3 ρ3 S3 _ _ w3 rs3 q3 fun b H4 S4 w4 s4 q4 => ?_
      have u4 := u3.step w4 s4
      cases b with
      | false => rw [if_neg (by decide)]; exact ⟨acc, S4, u4, q4.f rfl⟩
      | true =>
        rw [if_pos rfl]
        refine hi1 σ3 H4 ρ3 S4 _ _ w4 (rs3.mono s4) (q4.t rfl) fun J1 H5 S5 L1 w5 s5 jr1 q5 => ?_
        have u5 := u4.step w5 s5
        obtain ⟨W1, w10, hstep1, hend1⟩ := q5

        refine ⟨fun j m H' => j ≤ L1.length ∧ m = L1.length - j ∧ ∃ acc2 S', LU K H1 S1 C acc2 H' S' ∧ Keep H5 S5 H' S' ∧ W1 j acc2 (vis S'), ⟨_, Nat.zero_le _, rfl, acc, S5, u5, Keep.refl, w10⟩, ?_⟩
        rintro j m2 H6 ⟨hjl, rfl, acc2, S6, u6, k6, hw6⟩
        obtain ⟨us6, hD6, rl6, hn6, w6, s6⟩ := id u6
        obtain ⟨hgo1, hstop1⟩ := jr1 H6 S6 w6 k6
        by_cases hlt1 : j < L1.length
        · have hd1 : L1[j]? = some L1[j] := List.getElem?_eq_getElem hlt1
          obtain ⟨go1, hy1⟩ := hgo1 j _ hd1
          refine .inr ⟨go1, fun H7 => ∃ acc2 S', LU K H1 S1 C acc2 H7 S' ∧ Keep H5 S5 H7 S' ∧ W1 (j + 1) acc2 (vis S'), fun H7 hN => ⟨L1.length - (j + 1), by omega, hlt1, rfl, hN⟩, fun x1 H7 y1 => ?_⟩
          obtain ⟨r7, w7, s7⟩ := hy1 x1 H7 y1
          have rs7 : RepSt K H7 S6 σ3 ρ3 := paired_imp (fun _ _ h => h) ((rsK ((rs3.mono s4).mono s5) (k6.trans s7.keep)))
          refine hg1 x1 _ (L2.wipe σ3 vs1) H7 (dwipe ρ3 vs1) S6 _ _ r7 w7 (rs7.wipe vs1) (hstep1 j _ acc2 (vis S6) hd1 hw6) fun σ8 H8 ρ8 S8 rs8 w8 s8 hwp8 q8 => ⟨by rw [hwp8 vs1 hv1]; exact wipe_in vs1 vs1 σ3 fun _ h => h, ?_⟩
          have u8 := u6.step w8 (s7.trans s8)
          refine ht1 σ8 H8 ρ8 S8 _ _ w8 rs8 q8 fun b1 H9 S9 w9 s9 q9 => ?_
          have u9 := u8.step w9 s9
          have k9 : Keep H5 S5 H9 S9 := ((k6.trans s7.keep).trans s8.keep).trans s9.keep
          cases b1 with
          | false => rw [if_neg (by decide)]; exact ⟨acc2, S9, u9, k9, q9.f rfl⟩
          | true =>
            rw [if_pos rfl]
            refine he σ8 H9 ρ8 S9 _ _ w9 (rs8.mono s9) (q9.t rfl) fun v Ha d Sa ra wa sa qa => ?_
            have ua := u9.step wa sa
            obtain ⟨usa, ha, hla, ub⟩ := ua.put w1 hC ra
            obtain ⟨_, _, _, hna, _, _⟩ := u9.step wa sa
            refine ⟨usa, ha, by rw [hla]; have := qa.1.le; omega, acc2 ++ [d], Sa, ub, (k9.trans sa.keep).trans (Keep.grow hna), qa.2⟩
        · have e : j = L1.length := by omega
          subst e
          exact .inl ⟨hstop1, acc2, S6, u6, hend1 acc2 _ hw6⟩
    · have e : i = L.length := by omega
      subst e
      have hC1 : ∀ a, S1 a = some .hid → a ≠ C := fun a e z => by rw [z, w1.free hC] at e; cases e
      refine .inl ⟨hstop, k _ _ (.lst acc) (eraS S' C) (.lst hD (by unfold eraS; rw [if_pos rfl]) (rl.monoK Keep.era)) w'.era (s1.trans ⟨s'.keep.trans Keep.era, fun a e => ⟨(s'.hid a e).1, ?_⟩⟩) ?_⟩
      · unfold eraS
        rw [if_neg (hC1 a e)]
        exact (s'.hid a e).2
      · rw [vis_era hn]
        exact hend acc _ hw
section
variable {X : Cx}
theorem de_lc2 {elt tg iter tg1 iter1 : Expr} {ifs ifs1 : List Expr} {scope : Scope} {own : List (Str × Nat)} {vs1 : List Nat} {pos : Pos} {wi wi1 : TI} {ti ti1 : TDI} {g g1 : TG} {dg dg1 : TDG} {is is1 : List Nat} {tt tt1 : TT} {dt dt1 : TDT} {te : TE} {de : TD} (hc : X.calm = true) (hN : X.N.Nodup) (hi : DI X tg iter wi ti) (ok : BlkOk X.N X.env.scope scope own)
    (hg : ∀ (s : Shared) (H : Hp) (C : Addr) (cl : List (Str × Addr)) (fp : List Addr), DG (X.blk s H scope (compEnvC scope cl C X.env) fp) tg g dg is) (ht : ∀ (s : Shared) (H : Hp) (C : Addr) (cl : List (Str × Addr)) (fp : List Addr), DTs (X.blk s H scope (compEnvC scope cl C X.env) fp) ifs tt dt)
    (hi1 : ∀ (s : Shared) (H : Hp) (C : Addr) (cl : List (Str × Addr)) (fp : List Addr), DI (X.blk s H scope (compEnvC scope cl C X.env) fp) tg1 iter1 wi1 ti1)
    (hg1 : ∀ (s : Shared) (H : Hp) (C : Addr) (cl : List (Str × Addr)) (fp : List Addr), DG (X.blk s H scope (compEnvC scope cl C X.env) fp) tg1 g1 dg1 is1) (ht1 : ∀ (s : Shared) (H : Hp) (C : Addr) (cl : List (Str × Addr)) (fp : List Addr), DTs (X.blk s H scope (compEnvC scope cl C X.env) fp) ifs1 tt1 dt1)
    (he : ∀ (s : Shared) (H : Hp) (C : Addr) (cl : List (Str × Addr)) (fp : List Addr), DE (X.blk s H scope (compEnvC scope cl C X.env) fp) elt te de) (hv0 : ∀ i ∈ vs1, i ∈ own.map (·.2) := by decide) (hv : ∀ i ∈ is, i ∈ own.map (·.2) := by decide) (hv1 : ∀ i ∈ is1, i ∈ vs1 := by decide)
    (hs : ∀ x, foldedSetIterable iter X.env x = pure x := by intro _; rfl) (hs1 : ∀ env x, foldedSetIterable iter1 env x = pure x := by intro _ _; rfl) :
    DE X (.ListComp elt [⟨tg, iter, ifs, 0⟩, ⟨tg1, iter1, ifs1, 0⟩] scope pos) (tLc2 wi g tt wi1 g1 tt1 te (own.map (·.2)) vs1) (dLc2 ti dg dt ti1 dg1 dt1 de (own.map (·.2)) vs1) :=
  ⟨pe_lc2 hc hN hi.pi ok hv0 (fun s H C cl fp => (hg s H C cl fp).pg) (fun s H C cl fp => (ht s H C cl fp).pt) (fun s H C cl fp => (hi1 s H C cl fp).pi) (fun s H C cl fp => (hg1 s H C cl fp).pg) (fun s H C cl fp => (ht1 s H C cl fp).pt) (fun s H C cl fp => (he s H C cl fp).pe) hs hs1,
    ab_lc2 hi.ab (hg ({} : Shared) (fun _ => none) 0 [] []).ab (ht ({} : Shared) (fun _ => none) 0 [] []).ab (hi1 ({} : Shared) (fun _ => none) 0 [] []).ab (hg1 ({} : Shared) (fun _ => none) 0 [] []).ab (ht1 ({} : Shared) (fun _ => none) 0 [] []).ab (he ({} : Shared) (fun _ => none) 0 [] []).ab hv hv1⟩
end
end DL

namespace DL
open PySem PySem.Spec PyProof.Rows L2
/-! ### max, min of a list; sorted ints and pairs -/
def maxLD : RDC := fun xs S Q => match xs with
  | [.lst ds] => ∃ ns : List Int, ds = ns.map D.int ∧ 0 < ns.length ∧ ∀ m, m ∈ ns → (∀ y, y ∈ ns → y ≤ m) → Q (.int m) S
  | _ => False
def minLD : RDC := fun xs S Q => match xs with
  | [.lst ds] => ∃ ns : List Int, ds = ns.map D.int ∧ 0 < ns.length ∧ ∀ m, m ∈ ns → (∀ y, y ∈ ns → m ≤ y) → Q (.int m) S
  | _ => False
def sortID : RDC := fun xs S Q => match xs with
  | [.lst ds] => ∃ ns : List Int, ds = ns.map D.int ∧ ∀ ns' : List Int, ns'.Perm ns → ns'.Pairwise (· ≤ ·) → Q (.lst (ns'.map D.int)) S
  | _ => False
abbrev pairD (p : Int × Int) : D := .tup [.int p.1, .int p.2]
def sortPD : RDC := fun xs S Q => match xs with
  | [.lst ds] => ∃ ps : List (Int × Int), ds = ps.map pairD ∧ ∀ ps' : List (Int × Int), ps'.Perm ps → ps'.Pairwise (fun p q => SrtO.lexB q p = false) → Q (.lst (ps'.map pairD)) S
  | _ => False
section
variable {X : Cx} {K : PySem.W.Frag}
theorem k_maxL (hc : X.calm = true) (hK : X.K = K := by rfl) : DC X (.builtin "max") (rMax K) maxLD := by
  subst hK
  exact ⟨cr_max hc, fun H S vs ds Q Qv w rv q k => by
    unfold maxLD at q
    split at q
    · obtain ⟨ns, rfl, hl, q⟩ := q
      cases rv with
      | cons r t =>
        cases t
        obtain ⟨a, us, rfl, h1, h2⟩ := r.lst
        rw [RepL.ints_of h2] at h1
        exact ⟨a, ns, rfl, SqL.of h1, hl, fun m hm hy => k _ _ _ _ (.int _) w Step.refl (q m hm hy)⟩
    · exact False.elim q⟩
theorem k_minL (hc : X.calm = true) (hK : X.K = K := by rfl) : DC X (.builtin "min") (rMin K) minLD := by
  subst hK
  exact ⟨cr_min hc, fun H S vs ds Q Qv w rv q k => by
    unfold minLD at q
    split at q
    · obtain ⟨ns, rfl, hl, q⟩ := q
      cases rv with
      | cons r t =>
        cases t
        obtain ⟨a, us, rfl, h1, h2⟩ := r.lst
        rw [RepL.ints_of h2] at h1
        exact ⟨a, ns, rfl, SqL.of h1, hl, fun m hm hy => k _ _ _ _ (.int _) w Step.refl (q m hm hy)⟩
    · exact False.elim q⟩
theorem k_sortI (hK : X.K = K := by rfl) : DC X (.builtin "sorted") (rSortedI K) sortID := by
  subst hK
  exact ⟨cr_sortedI, fun H S vs ds Q Qv w rv q k => by
    unfold sortID at q
    split at q
    · obtain ⟨ns, rfl, q⟩ := q
      cases rv with
      | cons r t =>
        cases t
        obtain ⟨a, us, rfl, h1, h2⟩ := r.lst
        rw [RepL.ints_of h2] at h1
        exact ⟨a, ns, rfl, SqL.of h1, fun ns' p hp hs hn => k _ _ _ _ (.lst upd_same (w.free hn) (RepL.ints.mono (Step.new w hn))) (w.new hn) (Step.new w hn) (q ns' hp hs)⟩
    · exact False.elim q⟩
/-- the pair that a value stands for -/
def pairOf (H : Hp) : V → Int × Int
  | .ref t => match H t with
    | some (.tup [.int i, .int j]) => (i, j)
    | _ => (0, 0)
  | _ => (0, 0)
theorem pair_rep {H : Hp} {S : Sto} {v : V} {p : Int × Int} (r : Rep K H S v (pairD p)) : pairOf H v = p ∧ ∃ t, v = .ref t ∧ H t = some (.tup [.int p.1, .int p.2]) := by
  cases r with
  | tup h n rl =>
    cases rl with
    | cons r1 rl =>
      cases rl with
      | cons r2 rl =>
        cases rl
        cases r1; cases r2
        exact ⟨by simp only [pairOf, h], _, rfl, h⟩
theorem pairs_repL {H : Hp} {S : Sto} : ∀ {vs : List V} {ps : List (Int × Int)}, RepL K H S vs (ps.map pairD) → vs.map (pairOf H) = ps ∧ ∀ x ∈ vs, ∃ t, x = .ref t ∧ H t = some (.tup [.int (pairOf H x).1, .int (pairOf H x).2]) ∧ Rep K H S x (pairD (pairOf H x))
  | _, [], .nil => ⟨rfl, fun x h => by cases h⟩
  | _, p :: ps, .cons r t => by
    obtain ⟨e1, u, rfl, hu⟩ := pair_rep r
    obtain ⟨e2, h2⟩ := pairs_repL t
    refine ⟨by rw [List.map_cons, e1, e2], fun x hx => ?_⟩
    rcases List.mem_cons.mp hx with rfl | hx
    · rw [e1]; exact ⟨u, rfl, hu, r⟩
    · exact h2 x hx
theorem repL_of_mem {H : Hp} {S : Sto} {f : V → D} : ∀ {vs : List V}, (∀ x ∈ vs, Rep K H S x (f x)) → RepL K H S vs (vs.map f)
  | [], _ => .nil
  | x :: vs, h => .cons (h x List.mem_cons_self) (repL_of_mem fun y hy => h y (List.mem_cons_of_mem _ hy))
theorem k_sortP (hK : X.K = K := by rfl) : DC X (.builtin "sorted") (rSortedPO K) sortPD := by
  subst hK
  exact ⟨cr_sortedPO, fun H S vs ds Q Qv w rv q k => by
    unfold sortPD at q
    split at q
    · obtain ⟨ps, rfl, q⟩ := q
      cases rv with
      | cons r t =>
        cases t
        obtain ⟨a, us, rfl, h1, h2⟩ := r.lst
        obtain ⟨e, hx⟩ := pairs_repL h2
        refine ⟨a, us, pairOf H, rfl, SqL.of h1, fun x m => ?_, fun ys p hs hb hn => ?_⟩
        · obtain ⟨t, e, h, _⟩ := hx x m; exact ⟨t, e, h⟩
        · have hr : RepL X.K H S ys ((ys.map (pairOf H)).map pairD) := by
            rw [List.map_map]
            exact repL_of_mem fun x m => (hx x (hb.perm.mem_iff.mp m)).choose_spec.2.2
          refine k _ _ _ _ (.lst upd_same (w.free hn) (hr.mono (Step.new w hn))) (w.new hn) (Step.new w hn) (q (ys.map (pairOf H)) ?_ ?_)
          · rw [← e]; exact hb.perm.map _
          · rw [List.pairwise_map]; exact hs
    · exact False.elim q⟩
end
/-! ### l.index(i), ints -/
def indexD : RD2 := fun x y S Q => match x, y with
  | .lst xs, .int i => ∃ (ns : List Int) (j : Nat), xs = ns.map D.int ∧ ns[j]? = some i ∧ (∀ m : Nat, m < j → ns[m]? ≠ some i) ∧ Q (.int (j : Nat)) S
  | _, _ => False
theorem flat_ints : ∀ ns : List Int, (ns.map V.int).all flatV = true
  | [] => rfl
  | n :: ns => by rw [List.map_cons, List.all_cons, flat_ints ns]; rfl
section
variable {X : Cx} {K : PySem.W.Frag} {o e : Expr} {to te : TE} {d1 d2 : TD} {apos pos : Pos}
theorem k_index (ho : DE X o to d1) (he : DE X e te d2) (hK : X.K = K := by rfl) (b : Bm1 X o "index" apos e pos := by exact ⟨rfl, rfl, rfl, rfl, rfl⟩) :
    DE X (.Call (.Attribute o "index" apos) [e] [] pos) (tBM K "list" (rIndex K) to (tCons te tNil)) (dM1 indexD d1 d2) := by
  subst hK
  refine ⟨b.pe PySem.F.plainAttrs_list PySem.F.slot_list_index PySem.F.type_list_index mt_index ho.pe he.pe, fun σ H ρ S Q Qv w rs q k => ho.ab σ H ρ S _ _ w rs q fun v H1 x S1 r w1 s1 q1 => ?_⟩
  have rr := peek_rep w1 r
  obtain ⟨hx, q1⟩ := q1.go
  refine ⟨?_, he.ab σ H1 ρ S1 _ _ w1 (rs.mono s1) q1 fun y H2 d S2 r2 w2 s2 q2 => ?_⟩
  · generalize peek (vis S1) x = x0 at rr hx
    cases x0 with
    | lst xs => obtain ⟨a, us, rfl, h1, h2⟩ := rr.lst; exact .inl ⟨rfl, _, SqL.of h1⟩
    | fz xs => obtain ⟨a, us, rfl, h1, h2⟩ := rr.fz; exact .inl ⟨rfl, _, h1⟩
    | _ => exact hx.elim
  have ry := peek_rep w2 r2
  have rx := peek_rep w2 (r.mono s2)
  have q2 := q2.go
  generalize peek (vis S2) x = x' at rx q2
  generalize peek (vis S2) d = d' at ry q2
  unfold indexD at q2
  split at q2
  · obtain ⟨ns, j, rfl, hj, hm, q2⟩ := q2
    rename_i i
    obtain ⟨a, us, rfl, h1, h2⟩ := rx.lst
    rw [RepL.ints_of h2] at h1
    cases ry.int
    refine ⟨a, ns.map V.int, .int i, j, .int i, rfl, rfl, SqL.of h1, rfl, flat_ints ns, by rw [List.getElem?_map, hj]; rfl, by simp [eqV], fun m z' hlt hz => ?_, k _ _ _ _ (.int _) w2 (s1.trans s2) q2⟩
    rw [List.getElem?_map] at hz
    cases e : ns[m]? with
    | none => rw [e] at hz; cases hz
    | some u =>
      rw [e] at hz
      cases hz
      have : u ≠ i := fun h => hm m hlt (by rw [e, h])
      simp [eqV, this]
  · exact q2.elim
end
/-! ### x[::-1] of tuples, lists, texts -/
namespace RvX
open HT
section
variable {prog : Program} {w : World} {A : Around} {E : Value → Shared → Prop} {s : Shared}
theorem adjust_rev (n : Nat) : Builtin.Slice.sliceAdjust none none (-1) (n : Int) = ((n : Int) - 1, -1) := rfl
theorem places_rev (n : Nat) : Builtin.Slice.slicePlaces ((n : Int) - 1) (-1) (-1) = n := by
  unfold Builtin.Slice.slicePlaces
  rw [if_neg (by decide)]
  split
  · rw [show -(-1 : Int) = 1 by decide, Int.ediv_one]; omega
  · omega
theorem pick_rev (xs : Array Value) : ((List.range xs.size).filterMap fun (m : Nat) => xs[(((xs.size : Int) - 1) + (m : Int) * (-1)).toNat]?).toArray = xs.toList.reverse.toArray := by
  have h := PySem.W.krv_pick xs
  unfold slicePick at h
  rw [PySem.W.krv_bounds] at h
  simp only at h
  rw [PySem.W.krv_sliceRange, List.filterMap_map] at h
  rw [← h]
  have e : (fun (m : Nat) => xs[(((xs.size : Int) - 1) + (m : Int) * (-1)).toNat]?) = fun m => xs[xs.size - 1 - m]? := by
    funext m
    rw [show (((xs.size : Int) - 1) + (m : Int) * (-1)).toNat = xs.size - 1 - m by omega]
  rw [e]
  rfl
theorem sliceApplied_rev {sl : Addr} {vl vu vs : Value} {n : Nat} {Q : Int × Int × Nat → Shared → Prop} (hs : s.heap.IsSliceOf sl vl vu vs) (pl : IsPart vl none) (pu : IsPart vu none) (ps : IsPart vs (some (-1)))
    (h : Q ((n : Int) - 1, -1, n) s) : wpAny (model prog w) A (Builtin.Slice.sliceApplied (.ref sl) (pure (n : Int))) Q E s := by
  obtain ⟨os, hos, hcs, hds⟩ := id hs
  unfold Builtin.Slice.sliceApplied Builtin.Slice.sliceFields
  refine wpAny_bind (wpAny_bind (wpAny_field hos hds (x := vl) rfl (wpAny_bind (wpAny_field hos hds (x := vu) rfl (wpAny_bind (wpAny_field hos hds (x := vs) rfl (wpAny_pure ?_)))))))
  refine wpAny_bind (slicePart_ ps ?_)
  show wpAny _ _ (if ((-1 : Int) == 0) = true then _ else _) _ _ s
  rw [if_neg (by decide)]
  refine wpAny_bind (slicePart_ pl (wpAny_bind (slicePart_ pu (wpAny_bind (wpAny_pure ?_)))))
  show wpAny _ _ (match Builtin.Slice.sliceAdjust none none (-1) (n : Int) with | (lo, hi) => pure (lo, (-1 : Int), Builtin.Slice.slicePlaces lo hi (-1))) _ _ s
  rw [adjust_rev n]
  show wpAny _ _ (pure ((n : Int) - 1, (-1 : Int), Builtin.Slice.slicePlaces ((n : Int) - 1) (-1) (-1))) _ _ s
  rw [places_rev]
  exact wpAny_pure h
theorem getItem_tuple_rev {t sl : Addr} {items : Array Value} {vl vu vs : Value} {Q : Value → Shared → Prop} (ht : IsTup s.heap t items) (hs : s.heap.IsSliceOf sl vl vu vs) (pl : IsPart vl none) (pu : IsPart vu none) (ps : IsPart vs (some (-1)))
    (h : Q (.ref s.heap.objs.size) { s with heap := s.heap.push { cls := .type "tuple", data := .seq items.toList.reverse.toArray } })
    (hsz : items.size ≤ sizeLine) : wpAny (model prog w) A (getItem (.ref t) (.ref sl)) Q E s := by
  have htake : sizeOk (.seq items.toList.reverse.toArray) := by
    show items.toList.reverse.toArray.size ≤ sizeLine
    rw [List.size_toArray, List.length_reverse, Array.length_toList]
    exact hsz
  obtain ⟨os, hos, hcs, hds⟩ := id hs
  have hTs : s.TypeIs (.ref sl) "slice" := ⟨os, hos, hcs⟩
  unfold getItem
  try with_reducible refine wpAny_holding ?_
  first | refine wpAny_bind (wpAny_pure ?_) | skip
  refine wpAny_bind (wpAny_sequenceKey ht.typeIs (by decide) ?_)
  refine wpAny_bind (wpAny_callSpecial?_slot (name := Str.ofString "__getitem__") ht.typeIs PyProof.Rows.slot_tuple_getitem
    (wpAny_call_entry PyProof.Rows.slot_tuple_getitem ht.typeIs entry_tuple_getitem ?_ (args_tuple_getitem _ _)))
  show wpAny _ _ (Builtin.Tuple.tupleItemsOf (.ref t) >>= _) _ _ s
  refine wpAny_bind (tupleItemsOf_ ht ?_)
  refine wpAny_bind (wpAny_typeOf hTs ?_)
  rw [if_pos (by decide)]
  refine wpAny_bind (sliceApplied_rev hs pl pu ps ?_)
  have hno : ¬ ((((items.size : Int) - 1) == 0 && (-1 : Int) == 1 && items.size == items.size) = true) := by
    intro q
    rw [Bool.and_eq_true, Bool.and_eq_true] at q
    exact absurd (eq_of_beq q.1.2) (by decide)
  show wpAny _ _ (if (((items.size : Int) - 1) == 0 && (-1 : Int) == 1 && items.size == items.size) = true then _ else _) _ _ s
  rw [if_neg hno, pick_rev]
  first
    | exact wpAny_bind (m := Builtin.Tuple.tupleExact _) (wpAny_newObj_type (wpAny_pure ⟨_, rfl, wpAny_pure h⟩) htake)
    | exact wpAny_bind (m := Builtin.Tuple.tupleExact _) (wpAny_newObj_type (wpAny_bind (wpAny_pure (wpAny_pure ⟨_, rfl, wpAny_pure h⟩))) htake)
    | exact wpAny_bind (wpAny_bind (m := Builtin.Tuple.tupleExact _) (wpAny_newObj_type (wpAny_pure (wpAny_pure ⟨_, rfl, wpAny_pure h⟩)) htake))
    | exact wpAny_bind (wpAny_bind (m := Builtin.Tuple.tupleExact _) (wpAny_newObj_type (wpAny_pure ⟨_, rfl, wpAny_pure h⟩) htake))
end
end RvX
def revS (z : Str) : Str := ⟨z.cps.toList.reverse.toArray⟩
def tRevA (K : PySem.W.Frag) (te : TE) : TE := fun σ H Q => te σ H fun x H1 => (∃ a xs, x = .ref a ∧ SqL K H1 a xs ∧ ∀ p, H1 p = none → Q (.ref p) (upd H1 p (.lst xs.reverse))) ∨
  ((∃ a xs, x = .ref a ∧ SqT K H1 a xs ∧ ∀ p, H1 p = none → Q (.ref p) (upd H1 p (.tup xs.reverse))) ∨ ∃ z, x = .str z ∧ z.length ≤ sizeLine ∧ Q (.str (revS z)) H1)
section
variable {X : Cx}
theorem picked_rev {x : Str} {t : Tok} : ((slicePicked x none none (some (-1, t))).filterMap (x.cps[·]?)).toArray = x.cps.toList.reverse.toArray := by
  have e : slicePicked x none none (some (-1, t)) = (List.range x.cps.size).map fun k => x.cps.size - 1 - k := PySem.W.krv_sliceRange x.cps.size
  have h2 : (List.range x.cps.size).filterMap (fun k => x.cps[x.cps.size - 1 - k]?) = x.cps.toList.reverse := by
    rw [← PySem.W.krv_all x.cps, ← List.filterMap_reverse, ← PySem.W.krv_range, List.filterMap_map]
    rfl
  rw [e, List.filterMap_map]
  show ((List.range x.cps.size).filterMap (fun k => x.cps[x.cps.size - 1 - k]?)).toArray = _
  rw [h2]
theorem pe_revA {e : Expr} {te : TE} {k : Nat} {p1 p2 p3 pos : Pos} (he : PE X e te) : PE X (.Subscript e (.Slice none none (some (.UnaryOp .USub (.Constant (.int 1) k p1) p2)) p3) pos) (tRevA X.K te) := by
  refine ⟨fun pins s σ H Q I h => ?_⟩
  refine Subscript_ (thn (he.run pins s σ H _ I h) fun v s1 ⟨x, H1, I1, r1, q1⟩ => ?_)
  have hst : PO X (some (.UnaryOp .USub (.Constant (.int 1) k p1) p2)) (tPart (tUn (rU fun i => .int (-i)) (tC (.int 1)))) := po_some (pe_un un_neg pe_int)
  refine wpAny_Slice (thn (po_none.run pins s1 σ H1 (fun o H2 => o = none ∧ H2 = H1) I1 ⟨rfl, rfl⟩) fun vl s2 ⟨l, H2, I2, pl, el, e2⟩ => ?_)
  subst el e2
  refine thn (po_none.run pins s2 σ H2 (fun o H3 => o = none ∧ H3 = H2) I2 ⟨rfl, rfl⟩) fun vu s3 ⟨u, H3, I3, pu, eu, e3⟩ => ?_
  subst eu e3
  refine thn (hst.run pins s3 σ H3 (fun o H4 => o = some (-1) ∧ H4 = H3) I3 ⟨1, rfl, -1, rfl, rfl, rfl⟩) fun vs s4 ⟨o, H4, I4, ps, eo, e4⟩ => ?_
  subst eo e4
  have I5 : Inv X pins σ H4 { s4 with heap := s4.heap.push { cls := .type "slice", data := .fields #[vl, vu, vs] } } := I4.kept (t' := s4.toks) fun b ob q => Heap.get?_push_of_some _ q
  show wpAny (model X.prog X.w) X.A (subscriptTail e (.Slice none none (some (.UnaryOp .USub (.Constant (.int 1) k p1) p2)) p3) v (.ref s4.heap.objs.size)) (EP X pins σ Q) X.xe { s4 with heap := s4.heap.push { cls := .type "slice", data := .fields #[vl, vu, vs] } }
  rcases q1 with ⟨a, xs, ex, hx, q⟩ | ⟨a, xs, ex, hx, q⟩ | ⟨z, ex, hz, q⟩
  · subst ex
    cases r1
    obtain ⟨its, r, ht, hz⟩ := I5.list hx
    have hlen := r.length
    refine tail_any (ops := [.ref a, .ref s4.heap.objs.size]) ht.isList.typeIs (PySem.slot_list_getitem.lookup) ?_ (by with_unfolding_all rfl)
    refine wpAny_getItem_list_slice ht.isList (Heap.IsSliceOf.new _ vl vu vs) pl pu ps (by decide) ?_ (by rw [List.size_toArray]; omega)
    rw [PySem.W.krv_pick]
    refine ⟨.ref _, _, I5.laid (t' := s4.toks) (o := .lst xs.reverse) (fun b ob q => Heap.get?_push_of_some _ q) (Nat.le_refl _) ?_, rfl, q _ (I5.hok.fresh (Nat.le_refl _))⟩
    exact ⟨by rw [List.length_reverse]; exact hz, _, 0, r.reverse, Heap.get?_push_size _ rfl⟩
  · subst ex
    cases r1
    obtain ⟨its, r, ht, hz⟩ := I5.tuple hx
    have hlen := r.length
    refine tail_any (ops := [.ref a, .ref s4.heap.objs.size]) ht.typeIs (PyProof.Rows.slot_tuple_getitem.lookup) ?_ (by with_unfolding_all rfl)
    refine RvX.getItem_tuple_rev ht (Heap.IsSliceOf.new _ vl vu vs) pl pu ps ?_ (by rw [List.size_toArray]; omega)
    refine ⟨.ref _, _, I5.laid (t' := s4.toks) (o := .tup xs.reverse) (fun b ob q => Heap.get?_push_of_some _ q) (Nat.le_refl _) ?_, rfl, q _ (I5.hok.fresh (Nat.le_refl _))⟩
    exact ⟨by rw [List.length_reverse]; exact hz, _, r.reverse, IsTup.new _ _⟩
  · subst ex
    obtain ⟨t, rfl⟩ := r1
    obtain ⟨l, rfl, el⟩ := IsPart.raw pl
    obtain ⟨u, rfl, eu⟩ := IsPart.raw pu
    obtain ⟨st, rfl, est⟩ := IsPart.raw ps
    refine tail_any (ops := [.str z t, .ref s4.heap.objs.size]) (typeIs_str _ _ _) (F.slot_str_getitem.lookup) ?_ (by with_unfolding_all rfl)
    cases l with
    | some l => cases el
    | none =>
      cases u with
      | some u => cases eu
      | none =>
        cases st with
        | none => cases est
        | some st =>
          obtain ⟨i, tt⟩ := st
          have ei : i = -1 := by simpa using est
          subst ei
          refine wpAny_getItem_str_slice (l := none) (u := none) (st := some (-1, tt)) ⟨_, Heap.get?_push_size _ rfl, rfl, rfl⟩ rfl ?_
          unfold sliceMade
          rw [if_neg (by simp), picked_rev]
          refine ⟨?_, .str _, H4, I5.tok _, ⟨_, rfl⟩, q⟩
          show z.cps.toList.reverse.toArray.size ≤ sizeLine
          rw [List.size_toArray, List.length_reverse, Array.length_toList]
          exact hz
end
def dRev (t : TD) : TD := fun ρ S Q => t ρ S fun d S1 => PeekP S1 d fun d' => match d' with
  | .lst ds => Q (.lst ds.reverse) S1
  | .tup ds => Q (.tup ds.reverse) S1
  | .str z => SzOk z.length ∧ Q (.str (revS z)) S1
  | _ => False
theorem RepL.reverse {K : PySem.W.Frag} {H : Hp} {S : Sto} : ∀ {vs : List V} {ds : List D}, RepL K H S vs ds → RepL K H S vs.reverse ds.reverse
  | _, _, .nil => .nil
  | _, _, .cons r t => by rw [List.reverse_cons, List.reverse_cons]; exact (RepL.reverse t).append (.cons r .nil)
theorem k_rev {X : Cx} {K : PySem.W.Frag} {e : Expr} {te : TE} {t : TD} {k : Nat} {p1 p2 p3 pos : Pos} (he : DE X e te t) (hK : X.K = K := by rfl) : DE X (.Subscript e (.Slice none none (some (.UnaryOp .USub (.Constant (.int 1) k p1) p2)) p3) pos) (tRevA K te) (dRev t) := by
  subst hK
  refine ⟨pe_revA he.pe, fun σ H ρ S Q Qv w rs q kq => he.ab σ H ρ S _ _ w rs q fun v H1 x S1 r1 w1 s1 q1 => ?_⟩
  have rr := peek_rep w1 r1
  have q1 := q1.go
  generalize peek (vis S1) x = x' at rr q1
  cases x' with
  | lst ds =>
    obtain ⟨a, us, rfl, h1, h2⟩ := rr.lst
    exact .inl ⟨a, us, rfl, SqL.of h1, fun p hp => kq _ _ _ _ (.lst upd_same (w1.free hp) (h2.reverse.mono (Step.new w1 hp))) (w1.new hp) (s1.trans (Step.new w1 hp)) q1⟩
  | tup ds =>
    obtain ⟨a, us, rfl, h1, h2⟩ := rr.tup
    exact .inr (.inl ⟨a, us, rfl, h1, fun p hp => kq _ _ _ _ (.tup upd_same (w1.free hp) (h2.reverse.mono (Step.new w1 hp))) (w1.new hp) (s1.trans (Step.new w1 hp)) q1⟩)
  | str z =>
    cases rr.str
    exact .inr (.inr ⟨z, rfl, q1.1.le, kq _ _ _ _ (.str _) w1 s1 q1.2⟩)
  | _ => exact q1.elim
/-! ### a def with a keyword-only default, as it stands -/
theorem funKw_mk {K : PySem.W.Frag} {mg : Str → Option Value} {x : Str} {st : Stmt} {ps : List Str} {n : Nat} {kw : Str} {d0 : Int} {f D : Addr} {oc : Value} {od an : Option Addr} {osl : Array (Option Value)} {doc pm cdv ct : Value} {u0 : Tok}
    (l : K.lookup f = some ⟨oc, od, .func (PySem.W.fnOf x x (defArgs st) (defBody st) (defScope st) .none (.ref D) doc pm an cdv ct), osl⟩) (c : PySem.W.codeIn K cdv x = true) (k : PySem.W.keepIn K (.ref f) = true) (hm : mg x = some (.ref f))
    (hD : PySem.W.nsIn K D kw = some (some (.int d0 u0))) (hn : ps.length = n + 1)
    (hkw : ∀ (us : List Value) (w : Value), us.length = n → bindArgs (PySem.W.fnOf x x (defArgs st) (defBody st) (defScope st) .none (.ref D) doc pm an cdv ct) ⟨us, [(kw, w)]⟩ = pure (ps.zip (us ++ [w])))
    (h0 : ∀ (us : List Value) (w : Value), us.length = n → KwChain D [(kw, w)] (bindArgs (PySem.W.fnOf x x (defArgs st) (defBody st) (defScope st) .none (.ref D) doc pm an cdv ct) ⟨us, []⟩) (ps.zip (us ++ [w]))) : FunKw K mg x st ps n kw d0 := by
  refine ⟨f, _, [.int d0 u0], fun_mk l c k, hm, ⟨fun s us ws X l1 l2 => ?_, fun r1 r2 => r1.append r2⟩, .cons ⟨u0, rfl⟩ .nil, fun s us X hl => ?_⟩
  · match ws, l2 with
    | [w], _ => exact .of_eq (hkw us w l1)
  · have l2 : us.length = n := by
      rw [List.length_append, hn] at hl
      simpa using hl
    exact BindsTo.of_looks fun M => KwChain.looks X (fun q hq => by
      rcases List.mem_cons.mp hq with e | hq
      · rw [e]; exact hD
      · cases hq) (h0 us (.int d0 u0) l2)
theorem Leave.lst {S : Sto} {p : Addr} {ds : List D} {Q : DQ} (h : S p = none) (q : Q (.lst ds) S) : Leave Q (.ref p) (updS S p (.lst ds)) := ⟨S, sub_new h, .inr ⟨p, ds, rfl, updS_same, h, q⟩⟩
end DL

namespace DL
open PySem PySem.Spec PyProof.Rows L2
/-! ### sorted(d), d a dict whose keys are pairs of ints, any number of them -/
abbrev keyP (p : Int × Int) : List Key := [.inl p.1, .inl p.2]
def IsP (H : Hp) (y : V) (q : Int × Int) : Prop := ∃ t, y = .ref t ∧ H t = some (.tup [.int q.1, .int q.2])
def rSortDT : List V → Hp → VK → Prop := fun vs H Q => ∃ (a : Addr) (kvs : List (List Key × V)) (ps : List (Int × Int)), vs = [V.ref a] ∧ H a = some (.dT kvs) ∧ kvs.map (·.1) = ps.map keyP ∧
  ∀ (ys : List V) (qs : List (Int × Int)) (p : Addr), qs.Perm ps → qs.Pairwise (fun p q => SrtO.lexB q p = false) → Paired (IsP H) ys qs → H p = none → Q (.ref p) (upd H p (.lst ys))
theorem kt_pairs {H : Hp} : ∀ {kvs : List (List Key × V)} {ks : List (List Key × Addr × Value)} {ps : List (Int × Int)}, KT H kvs ks → kvs.map (·.1) = ps.map keyP → Paired (fun x q => H x = some (.tup [.int q.1, .int q.2])) (ks.map fun x => x.2.1) ps
  | _, _, [], .nil, _ => .nil
  | _, _, p :: ps, .nil, e => by cases e
  | _, _, [], .cons _ _, e => by cases e
  | _, _, p :: ps, .cons (a := a) h t, e => by
    rw [List.map_cons, List.map_cons] at e
    obtain ⟨e1, e2⟩ := List.cons.inj e
    rw [List.map_cons]
    refine .cons ?_ (kt_pairs t e2)
    have h2 := h.2.1
    rw [e1] at h2
    exact h2
theorem paired_get {α β : Type} {F : α → β → Prop} : ∀ {l : List α} {m : List β}, Paired F l m → ∀ {x : α}, x ∈ l → ∃ y, y ∈ m ∧ F x y
  | _, _, .nil, _, h => by cases h
  | _, _, .cons h t, x, hx => by
    rcases List.mem_cons.mp hx with e | hx
    · subst e; exact ⟨_, List.mem_cons_self, h⟩
    · obtain ⟨y, a, b⟩ := paired_get t hx
      exact ⟨y, List.mem_cons_of_mem _ a, b⟩
theorem pairOf_eq {H : Hp} {t : Addr} {q : Int × Int} (h : H t = some (.tup [.int q.1, .int q.2])) : pairOf H (.ref t) = q := by simp only [pairOf, h]
theorem paired_map {H : Hp} : ∀ {l : List Addr} {m : List (Int × Int)}, Paired (fun x q => H x = some (.tup [.int q.1, .int q.2])) l m → l.map (fun t => pairOf H (.ref t)) = m
  | _, _, .nil => rfl
  | _, _, .cons h t => by rw [List.map_cons, pairOf_eq h, paired_map t]
section
variable {X : Cx}
theorem cr_sortedDT (hcalm : X.calm = true) : CallR X (.builtin "sorted") rSortDT := by
  intro pins s σ H vs us Q I r h
  obtain ⟨a, kvs, ps, rfl, ha, hks, q⟩ := h
  rw [Vals.ref1 r]
  obtain ⟨z, hs, ks, pr, o, es, ep, ho, hx, hdt, he, hn⟩ := (show ObjOk X.prog X.w H s.heap a (.dT kvs) from I.hok a _ ha)
  have l1 : es.size = ks.length := size_of_entries he
  have l2 : kvs.length = ks.length := Paired.length pr
  have pk := kt_pairs pr hks
  refine Calls.call_function_entry PyProof.Rows.kind_sorted PyProof.Rows.plain_sorted PyProof.Rows.entry_sorted (PyProof.Rows.args_sorted1 _) ?_
  unfold Builtin.«sorted»
  refine wpAny_bind (m := checkCount "sorted" 1 1 _) (wpAny_pure ?_)
  refine wpAny_bind (PySem.W.kdu_collect (A := X.A.in1) (kdl_raw hs hx hdt) (I.ok.hd hcalm) ho (by omega) fun h' tk acc hk it => ?_)
  have ea : acc.toList = (ks.map fun x => x.2.1).map Value.ref := by
    rw [List.map_map]
    have hl : acc.toList.length = ks.length := by rw [Array.length_toList, it.1]; exact l1
    apply List.ext_getElem?
    intro j
    rw [List.getElem?_map]
    cases hj : acc.toList[j]? with
    | none =>
      have h1 := List.getElem?_eq_none_iff.mp hj
      rw [List.getElem?_eq_none (by omega)]
      all_goals rfl
    | some v =>
      obtain ⟨en, hen, hv⟩ := it.2 j v (by rw [← Array.getElem?_toList]; exact hj)
      have qe := entry_at he j
      rw [hen] at qe
      cases hb : ks[j]? with
      | none => rw [hb] at qe; exact nomatch (show some en = none from qe)
      | some b =>
        rw [hb] at qe
        have e2 : en = entryOfKey (tupleKind (mixKind X.prog X.w)) b := Option.some.inj qe
        rw [hv, e2]
        all_goals rfl
  generalize ks.map (fun x => x.2.1) = bs at ea pk
  have lb : bs.length = ps.length := Paired.length pk
  have lp : ps.length = kvs.length := by rw [← List.length_map (f := keyP), ← hks, List.length_map]
  have hz : acc.toList.length ≤ sizeLine := by rw [ea, List.length_map]; omega
  have I1 : Inv X pins σ H { s with heap := h', toks := tk } := I.kept hk
  refine wpAny_bind (wpAny_newList ?_ hz)
  have hoL : (h'.push (seqObj "list" acc.toList.toArray 0)).get? h'.objs.size = some (seqObj "list" acc.toList.toArray 0) := Heap.get?_push_size _ rfl
  show wpAny _ _ _ _ _ { s with heap := h'.push (seqObj "list" acc.toList.toArray 0), toks := tk }
  have hpair : ∀ v ∈ acc.toList, _root_.Srt.IsPair (h'.push (seqObj "list" acc.toList.toArray 0)) v (pairOf H (backV v)).1 (pairOf H (backV v)).2 := fun v hv => by
    rw [ea] at hv
    obtain ⟨t, ht, rfl⟩ := List.mem_map.mp hv
    obtain ⟨p, _, hp⟩ := paired_get pk ht
    obtain ⟨_, its2, r2, o2, ho2, hc2, n2, hd2⟩ := I1.hok _ _ hp
    obtain ⟨u1, u2, rfl, ri, rj⟩ := vals2 r2
    obtain ⟨t1, rfl⟩ := ri
    obtain ⟨t2, rfl⟩ := rj
    have e : pairOf H (backV (Value.ref t)) = p := pairOf_eq hp
    rw [e]
    exact ⟨t, o2, t1, t2, n2, rfl, Heap.get?_push_of_some _ ho2, hc2, hd2⟩
  refine wpAny_bind (wpAny_holding (wpAny_call_entry PyProof.Rows.slot_list_sort ⟨_, hoL, rfl⟩ PyProof.Rows.entry_list_sort
    (SrtO.list_sort_ord (s := { s with heap := h'.push (seqObj "list" acc.toList.toArray 0), toks := tk }) (SrtO.swo_lex fun u => pairOf H (backV u)) hoL hz (fun h2 => SrtO.pairs_sortableO (s := { s with heap := h'.push (seqObj "list" acc.toList.toArray 0), toks := tk }) (by omega) hpair fun o e => by
      have e' : some o = some (seqObj "list" acc.toList.toArray 0) := e.symm.trans hoL
      cases e'
      intro c
      exact absurd (Value.type.inj c) (by decide)) fun out hso hb => ⟨_, rfl, ?_⟩)
    (PyProof.Rows.args_list_sort _)))
  obtain ⟨e', he'⟩ := PyProof.Rows.sortedHeap_at (vs := acc.toList) (out := out.toArray) hoL
  have hout : ∀ u ∈ out, ∃ t, u = Value.ref t ∧ ∃ p ∈ ps, H t = some (.tup [.int p.1, .int p.2]) := fun u hu => by
    have hu := hb.perm.mem_iff.mp hu
    rw [ea] at hu
    obtain ⟨t, ht, rfl⟩ := List.mem_map.mp hu
    obtain ⟨p, hp1, hp2⟩ := paired_get pk ht
    exact ⟨t, rfl, p, hp1, hp2⟩
  have hlen : (out.map backV).length ≤ sizeLine := by rw [List.length_map, hb.perm.length_eq]; exact hz
  refine wpAny_pure ⟨_, rfl, .ref h'.objs.size, upd H h'.objs.size (.lst (out.map backV)), I1.laid (t' := tk) (fun b u e => ?_) (Nat.le_refl _)
    (show ObjOk X.prog X.w _ _ _ (.lst (out.map backV)) from ⟨hlen, out, e', vals_back fun u hu => by obtain ⟨t, e, _⟩ := hout u hu; exact ⟨t, e⟩, he'⟩), rfl, q _ (out.map fun u => pairOf H (backV u)) _ ?_ ?_ ?_ (I1.hok.fresh (Nat.le_refl _))⟩
  · have hbz : b < h'.objs.size := Heap.lt_size e
    rw [PyProof.Rows.sortedHeap_old (Nat.ne_of_lt hbz) (by rw [size_push']; exact Nat.lt_succ_of_lt hbz)]
    exact Heap.get?_push_of_some _ e
  · have e1 := hb.perm.map fun u => pairOf H (backV u)
    rw [ea, List.map_map] at e1
    rw [← paired_map pk]
    exact e1
  · rw [List.pairwise_map]; exact hso
  · have key : ∀ l : List Value, (∀ u ∈ l, ∃ t, u = Value.ref t ∧ ∃ p ∈ ps, H t = some (.tup [.int p.1, .int p.2])) → Paired (IsP H) (l.map backV) (l.map fun u => pairOf H (backV u)) := fun l => by
      induction l with
      | nil => intro _; exact .nil
      | cons u l ih =>
        intro hl
        refine .cons ?_ (ih fun v hv => hl v (List.mem_cons_of_mem _ hv))
        obtain ⟨t, rfl, p, _, hp⟩ := hl u List.mem_cons_self
        have e : pairOf H (backV (Value.ref t)) = p := pairOf_eq hp
        show IsP H (.ref t) (pairOf H (backV (Value.ref t)))
        rw [e]
        exact ⟨t, rfl, hp⟩
    exact key out hout
end
theorem Wd.tupNo {K : PySem.W.Frag} {H : Hp} {S : Sto} (w : Wd K H S) {a : Addr} {vs : List V} (h : H a = some (.tup vs)) : S a = none := by
  cases e : S a with
  | none => rfl
  | some m =>
    have r := w a m e
    cases m with
    | lst ds => obtain ⟨_, h2, _⟩ := r; rw [h] at h2; cases h2
    | dK kvs => obtain ⟨_, h2, _⟩ := r; rw [h] at h2; cases h2
    | dT kvs => obtain ⟨_, h2, _⟩ := r; rw [h] at h2; cases h2
    | ins C fs => obtain ⟨_, _, h2, _⟩ := r; rw [h] at h2; cases h2
    | hid =>
      rcases r with ⟨_, h2⟩ | ⟨_, _, h2⟩ <;> (rw [h] at h2; cases h2)
structure DctT (S : Sto) (x : D) (Q : List (List Key × D) → Prop) : Prop where
  get : ∃ a kvs, x = .ref a ∧ S a = some (.dT kvs) ∧ Q kvs
theorem DctT.of {S : Sto} {a : Addr} {kvs : List (List Key × D)} {Q : List (List Key × D) → Prop} (h : S a = some (.dT kvs)) (q : Q kvs) : DctT S (.ref a) Q := ⟨a, kvs, rfl, h, q⟩
/-- sorted(d) -/
def dSortDT (t : TD) : TD := fun ρ S Q => t ρ S fun x S1 => DctT S1 x fun kvs => ∃ ps : List (Int × Int), kvs.map (·.1) = ps.map keyP ∧ ∀ ps' : List (Int × Int), ps'.Perm ps → ps'.Pairwise (fun p q => SrtO.lexB q p = false) → Q (.lst (ps'.map pairD)) S1
theorem repKV_keys {K : PySem.W.Frag} {H : Hp} {S : Sto} {κ : Type} : ∀ {vs : List (κ × V)} {ds : List (κ × D)}, RepKV K H S vs ds → vs.map (·.1) = ds.map (·.1)
  | _, _, .nil => rfl
  | _, _, .cons h t => by rw [List.map_cons, List.map_cons, h.1, repKV_keys t]
theorem isP_repL {K : PySem.W.Frag} {H : Hp} {S : Sto} (w : Wd K H S) : ∀ {ys : List V} {qs : List (Int × Int)}, Paired (IsP H) ys qs → RepL K H S ys (qs.map pairD)
  | _, _, .nil => .nil
  | _, _, .cons h t => by
    obtain ⟨a, rfl, ha⟩ := h
    exact .cons (.tup ha (w.tupNo ha) (.cons (.int _) (.cons (.int _) .nil))) (isP_repL w t)
theorem de_sortDT {X : Cx} {p pos : Pos} {e : Expr} {te : TE} {t : TD} (hc : X.calm = true) (hg : Gl X "sorted") (hm : X.mg "sorted" = none) (he : DE X e te t) (he1 : starEach [e] X.env = (false, eval e X.env) :: starEach [] X.env := by rfl) (hpl : (backTo pos (starEach [] X.env)).any (·.1) = false := by rfl) :
    DE X (.Call (.Name "sorted" p) [e] [] pos) (tCB rSortDT (tCons te tNil)) (dSortDT t) := by
  refine ⟨pe_callB (cr_sortedDT hc) hg hm bb_sorted (pa_cons he.pe pa_nil he1) (by decide) (by decide) he1 hpl, fun σ H ρ S Q Qv w rs q k => he.ab σ H ρ S _ _ w rs q fun v H1 x S1 r1 w1 s1 q1 => ?_⟩
  obtain ⟨a, kvs, rfl, h, ps, hk, q2⟩ := q1.get
  cases r1
  obtain ⟨vs, e1, r⟩ := w1 a _ (vis_of h).1
  refine ⟨a, vs, ps, rfl, e1, (repKV_keys r).trans hk, fun ys qs p hp hs hpr hn => ?_⟩
  exact k _ _ _ _ (.lst upd_same (w1.free hn) ((isP_repL w1 hpr).mono (Step.new w1 hn))) (w1.new hn) (s1.trans (Step.new w1 hn)) (q2 qs hp hs)
end DL

namespace DL
open PySem PySem.Spec PyProof.Rows L2
/-! ### sorted(set(l)), l a list of pairs of ints from 0 to 63 -/
def ltL (p q : Int × Int) : Prop := p.1 < q.1 ∨ (p.1 = q.1 ∧ p.2 < q.2)
theorem ltL_uniq : ∀ {l m : List (Int × Int)}, l.Pairwise ltL → m.Pairwise ltL → (∀ x, x ∈ l ↔ x ∈ m) → l = m
  | [], [], _, _, _ => rfl
  | [], y :: m, _, _, h => by have := (h y).mpr List.mem_cons_self; cases this
  | x :: l, [], _, _, h => by have := (h x).mp List.mem_cons_self; cases this
  | x :: l, y :: m, h1, h2, h => by
    obtain ⟨a1, a2⟩ := List.pairwise_cons.mp h1
    obtain ⟨b1, b2⟩ := List.pairwise_cons.mp h2
    have irr : ∀ z : Int × Int, ¬ ltL z z := fun z h => by unfold ltL at h; omega
    have asy : ∀ z u : Int × Int, ltL z u → ltL u z → False := fun z u h h' => by unfold ltL at h h'; omega
    have e : x = y := by
      rcases List.mem_cons.mp ((h x).mp List.mem_cons_self) with e | c1
      · exact e
      · rcases List.mem_cons.mp ((h y).mpr List.mem_cons_self) with e | c2
        · exact e.symm
        · exact (asy _ _ (a1 _ c2) (b1 _ c1)).elim
    subst e
    congr 1
    refine ltL_uniq a2 b2 fun z => ?_
    constructor
    · intro hz
      rcases List.mem_cons.mp ((h z).mp (List.mem_cons_of_mem _ hz)) with e | c
      · subst e; exact (irr _ (a1 _ hz)).elim
      · exact c
    · intro hz
      rcases List.mem_cons.mp ((h z).mpr (List.mem_cons_of_mem _ hz)) with e | c
      · subst e; exact (irr _ (b1 _ hz)).elim
      · exact c
/-- sorted without equal ones -/
theorem ltL_of {l : List (Int × Int)} (h : l.Pairwise fun p q => SrtO.lexB q p = false) (hn : l.Nodup) : l.Pairwise ltL := by
  refine (List.Pairwise.and h hn).imp fun {p q} h => ?_
  have h1 := SrtO.lexB_no.mp h.1
  have h2 := h.2
  unfold ltL
  by_cases e1 : p.1 = q.1
  · by_cases e2 : p.2 = q.2
    · exact (h2 (Prod.ext e1 e2)).elim
    · omega
  · omega
def addrOf : V → Addr
  | .ref t => t
  | _ => 0
theorem pairs_ks {K : PySem.W.Frag} {H : Hp} {S : Sto} : ∀ {us : List V} {ps : List (Int × Int)}, RepL K H S us (ps.map pairD) →
    us = (us.zip ps).map (fun z => V.ref (addrOf z.1)) ∧ ∀ z ∈ us.zip ps, z.2 ∈ ps ∧ SqT K H (addrOf z.1) [.int z.2.1, .int z.2.2]
  | _, [], .nil => ⟨rfl, fun z h => by cases h⟩
  | _, p :: ps, .cons r t => by
    obtain ⟨_, u, rfl, hu⟩ := pair_rep r
    obtain ⟨e, h⟩ := pairs_ks t
    refine ⟨by rw [List.zip_cons_cons, List.map_cons, ← e]; rfl, fun z hz => ?_⟩
    rcases List.mem_cons.mp hz with e | hz
    · subst e; exact ⟨List.mem_cons_self, SqT.of hu⟩
    · obtain ⟨a, b⟩ := h z hz
      exact ⟨List.mem_cons_of_mem _ a, b⟩
theorem zip_snd {α β : Type} {l : List α} {m : List β} (h : l.length = m.length) {x : β} (hx : x ∈ m) : ∃ z ∈ l.zip m, z.2 = x := by
  obtain ⟨i, hi⟩ := List.getElem?_of_mem hx
  have hl := (List.getElem?_eq_some_iff.mp hi).1
  refine ⟨(l[i]'(by omega), x), ?_, rfl⟩
  exact List.mem_of_getElem? (i := i) (by rw [List.getElem?_zip_eq_some]; exact ⟨List.getElem?_eq_getElem (by omega), hi⟩)
def dSortSet (t : TD) : TD := fun ρ S Q => t ρ S fun d S1 => PeekP S1 d fun d' => match d' with
  | .lst ds => ∃ ps : List (Int × Int), ds = ps.map pairD ∧ (∀ p ∈ ps, (0 ≤ p.1 ∧ p.1 < 64) ∧ 0 ≤ p.2 ∧ p.2 < 64) ∧ ps.length < 64 ∧ ∀ ps' : List (Int × Int), ps'.Pairwise ltL → (∀ p, p ∈ ps' ↔ p ∈ ps) → Q (.lst (ps'.map pairD)) S1
  | _ => False
abbrev two (p : Int × Int) : List Int := [p.1, p.2]
abbrev unTwo (l : List Int) : Int × Int := (l.getD 0 0, l.getD 1 0)
theorem unTwo_two (p : Int × Int) : unTwo (two p) = p := rfl
theorem de_sortSet {X : Cx} {p p2 pos pos2 : Pos} {e : Expr} {te : TE} {t : TD} (hc : X.calm = true) (hu : X.A.units + 64 < cLine) (hg : Gl X "sorted") (hm : X.mg "sorted" = none) (hg2 : Gl X "set") (hm2 : X.mg "set" = none) (he : DE X e te t)
    (he1 : starEach [e] X.env = (false, eval e X.env) :: starEach [] X.env := by rfl) (hpl : (backTo pos2 (starEach [] X.env)).any (·.1) = false := by rfl)
    (he2 : starEach [.Call (.Name "set" p2) [e] [] pos2] X.env = (false, eval (.Call (.Name "set" p2) [e] [] pos2) X.env) :: starEach [] X.env := by rfl) (hpl2 : (backTo pos (starEach [] X.env)).any (·.1) = false := by rfl) :
    DE X (.Call (.Name "sorted" p) [.Call (.Name "set" p2) [e] [] pos2] [] pos) (tCB (rSortedT X.K X.prog X.w) (tCons (tCB (rSetOfT X.K X.prog X.w) (tCons te tNil)) tNil)) (dSortSet t) := by
  refine ⟨pe_callB (cr_sortedT hc) hg hm bb_sorted (pa_cons (pe_callTy (cr_setOfT hc hu) hg2 hm2 bb_set (pa_cons he.pe pa_nil he1) (by decide) (by decide) he1 hpl) pa_nil he2) (by decide) (by decide) he2 hpl2, fun σ H ρ S Q Qv w rs q k => he.ab σ H ρ S _ _ w rs q fun v H1 x S1 r1 w1 s1 q1 => ?_⟩
  have rr := peek_rep w1 r1
  have q1 := q1.go
  generalize peek (vis S1) x = x' at rr q1
  cases x' with
  | lst ds =>
    obtain ⟨ps, rfl, hb, hl, q1⟩ := q1
    obtain ⟨a, us, rfl, h1, h2⟩ := rr.lst
    obtain ⟨eu, hz⟩ := pairs_ks h2
    have hlen : us.length = ps.length := by rw [h2.length, List.length_map]
    refine ⟨a, (us.zip ps).map (fun z => (addrOf z.1, two z.2)), rfl, ?_, fun z hz2 => ?_, by rw [List.length_map, List.length_zip]; omega, fun a2 L ha2 hL1 hL2 => ?_⟩
    · rw [List.map_map]
      have e2 : ((fun p : Addr × List Int => V.ref p.1) ∘ fun z : V × (Int × Int) => (addrOf z.1, two z.2)) = fun z => V.ref (addrOf z.1) := rfl
      rw [e2, ← eu]
      exact SqL.of h1
    · obtain ⟨y, hy, rfl⟩ := List.mem_map.mp hz2
      exact (hz y hy).2
    have st := Step.new (o := SetTO X.prog X.w a2 L) w1 ha2
    have w2 := w1.new (o := SetTO X.prog X.w a2 L) ha2
    have two_of : ∀ z ∈ L, ∃ y ∈ us.zip ps, z = (addrOf y.1, two y.2) := fun z hz2 => by
      obtain ⟨y, hy, e⟩ := List.mem_map.mp (hL1 z hz2)
      exact ⟨y, hy, e.symm⟩
    have keep : ∀ z ∈ us.zip ps, SqT X.K (upd H1 a2 (SetTO X.prog X.w a2 L)) (addrOf z.1) [.int z.2.1, .int z.2.2] := fun z hz2 => by
      obtain ⟨m, hm⟩ := List.getElem?_of_mem hz2
      obtain ⟨hm1, hm2⟩ := List.getElem?_zip_eq_some.mp (show (us.zip ps)[m]? = some (z.1, z.2) from hm)
      have r3 := (h2.mono st).get (i := m) (d := pairD z.2) (by rw [List.getElem?_map, hm2]; rfl)
      obtain ⟨v, hv, r4⟩ := r3
      rw [hm1] at hv
      have hv := Option.some.inj hv
      subst hv
      obtain ⟨_, u, e, hu2⟩ := pair_rep r4
      rw [e]
      exact SqT.of hu2
    refine ⟨a2, L, 2, 64, rfl, upd_same, fun z hz2 => ?_, by decide, fun z hz2 => ?_, fun L' p3 hp3 hn3 hl3 hs3 h3 => ?_⟩
    · obtain ⟨y, hy, rfl⟩ := two_of z hz2
      exact keep y hy
    · obtain ⟨y, hy, rfl⟩ := two_of z hz2
      refine ⟨rfl, fun n hn => ?_⟩
      have hb := hb y.2 (hz y hy).1
      rcases List.mem_cons.mp hn with e | hn
      · subst e; exact hb.1
      · rcases List.mem_cons.mp hn with e | hn
        · subst e; exact hb.2
        · cases hn
    have of' : ∀ z ∈ L', ∃ y ∈ us.zip ps, z = (addrOf y.1, two y.2) := fun z hz2 => two_of z (hp3.mem_iff.mp hz2)
    have rl : RepL X.K (upd H1 a2 (SetTO X.prog X.w a2 L)) S1 (L'.map fun q => V.ref q.1) ((L'.map fun q => unTwo q.2).map pairD) := by
      rw [List.map_map]
      have key : ∀ l : List (Addr × List Int), (∀ z ∈ l, ∃ y ∈ us.zip ps, z = (addrOf y.1, two y.2)) → RepL X.K (upd H1 a2 (SetTO X.prog X.w a2 L)) S1 (l.map fun q => V.ref q.1) (l.map (pairD ∘ fun q => unTwo q.2)) := fun l => by
        induction l with
        | nil => intro _; exact .nil
        | cons z l ih =>
          intro hl2
          refine .cons ?_ (ih fun u hu => hl2 u (List.mem_cons_of_mem _ hu))
          obtain ⟨y, hy, rfl⟩ := hl2 z List.mem_cons_self
          obtain ⟨m, hm⟩ := List.getElem?_of_mem hy
          obtain ⟨hm1, hm2⟩ := List.getElem?_zip_eq_some.mp (show (us.zip ps)[m]? = some (y.1, y.2) from hm)
          obtain ⟨v, hv, r4⟩ := (h2.mono st).get (i := m) (d := pairD y.2) (by rw [List.getElem?_map, hm2]; rfl)
          rw [hm1] at hv
          have hv := Option.some.inj hv
          subst hv
          obtain ⟨_, u, e, hu2⟩ := pair_rep r4
          show Rep X.K _ S1 (V.ref (addrOf y.1)) (pairD y.2)
          have e2 : V.ref (addrOf y.1) = y.1 := by rw [e]; rfl
          rw [e2]
          exact r4
      exact key L' of'
    have st3 := Step.new (o := .lst (L'.map fun q => V.ref q.1)) w2 h3
    refine k _ _ _ _ (.lst upd_same (w2.free h3) (rl.mono st3)) (w2.new h3) ((s1.trans st).trans st3) (q1 _ ?_ fun p5 => ?_)
    · rw [List.pairwise_map]
      have hn4 : L'.Pairwise fun q r => q.2 ≠ r.2 := List.pairwise_map.mp hn3
      refine List.Pairwise.imp_of_mem ?_ (List.Pairwise.and hs3 hn4)
      intro q r hq hr h
      obtain ⟨y, hy, rfl⟩ := of' q hq
      obtain ⟨u, hu2, rfl⟩ := of' r hr
      have b1 := hb y.2 (hz y hy).1
      have b2 := hb u.2 (hz u hu2).1
      exact pair_lt h.1 h.2 b1.1 b1.2 b2.1 b2.2
    · rw [List.mem_map]
      constructor
      · rintro ⟨q, hq, rfl⟩
        obtain ⟨y, hy, rfl⟩ := of' q hq
        exact (hz y hy).1
      · intro hp5
        obtain ⟨z, hz1, rfl⟩ := zip_snd hlen hp5
        obtain ⟨q, hq, e⟩ := List.mem_map.mp (hL2 (addrOf z.1, two z.2) (List.mem_map.mpr ⟨z, hz1, rfl⟩))
        exact ⟨q, hp3.mem_iff.mpr hq, by rw [e]; rfl⟩
  | _ => exact q1.elim
end DL

namespace DL
open PySem PySem.Spec PyProof.Rows L2
/-! ### [f(i, j) for i in range(n) for j in range(m) if p(i, j)] -/
def rows2 (n m : Int) (p : Int → Int → Bool) (f : Int → Int → D) : List D := (irg 0 n).flatMap fun i => ((irg 0 m).filter (p i)).map (f i)
theorem irg_take {n : Int} {i : Nat} (h : (i : Int) ≤ n) : (irg 0 n).take i = irg 0 i := by
  unfold irg
  rw [← List.map_take, List.take_range, show min i (n - 0).toNat = ((i : Int) - 0).toNat by omega]
theorem rows2_len {n m : Int} {p : Int → Int → Bool} {f : Int → Int → D} : ∀ {l : List Int}, (l.flatMap fun i => ((irg 0 m).filter (p i)).map (f i)).length ≤ l.length * m.toNat
  | [] => by simp
  | x :: l => by
    have ih := rows2_len (n := n) (m := m) (p := p) (f := f) (l := l)
    rw [List.flatMap_cons, List.length_append, List.length_map, List.length_cons, Nat.succ_mul]
    have := List.length_filter_le (p x) (irg 0 m)
    rw [irg_len] at this
    omega
theorem lc2_rng {ti1 : TDI} {t : TD} {g g1 : TDG} {tt tt1 : TDT} {te : TD} {vs vs1 : List Nat} {ρ : DSt} {S : Sto} {Q : DQ} {n m : Int} (ht : ∀ Q : DQ, Q (.int n) S → t ρ S Q) (hn : 0 ≤ n ∧ n ≤ 1000) (hm : 0 ≤ m ∧ m ≤ 1000) (ρ1 : Int → DSt) (p : Int → Int → Bool) (f : Int → Int → D)
    (h1 : ∀ i, 0 ≤ i → i < n → ∀ (R : DSt → List D → Sto → Prop) (R0 : Sto → Prop), R (ρ1 i) (rngL 0 m) S → g (.int i) (dwipe ρ vs) S fun ρ2 S2 => tt ρ2 S2 fun b S3 => Br b (ti1 ρ2 S3 fun L1 S4 => R ρ2 L1 S4) (R0 S3))
    (h2 : ∀ i j, 0 ≤ i → i < n → 0 ≤ j → j < m → ∀ (R : DQ) (R0 : Sto → Prop), (p i j = true → R (f i j) S) → (p i j = false → R0 S) → g1 (.int j) (dwipe (ρ1 i) vs1) S fun ρ3 S6 => tt1 ρ3 S6 fun b1 S7 => Br b1 (te ρ3 S7 R) (R0 S7))
    (hq : Q (.lst (rows2 n m p f)) S) : dLc2 (dRng1 t) g tt ti1 g1 tt1 te vs vs1 ρ S Q := by
  refine ⟨ht _ ⟨by omega, fun i acc S' => i ≤ n.toNat ∧ acc = (irg 0 i).flatMap (fun a => ((irg 0 m).filter (p a)).map (f a)) ∧ S' = S, ⟨Nat.zero_le _, rfl, rfl⟩, ?_, ?_⟩⟩
  · rintro i d acc S' hd ⟨hi, rfl, rfl⟩
    obtain ⟨hlt, rfl⟩ := rngL_get hd
    rw [Int.zero_add]
    refine h1 i (by omega) (by omega) (fun ρ2 L1 S4 => ∃ W1 : Nat → List D → Sto → Prop, W1 0 ((irg 0 (i : Int)).flatMap (fun a => ((irg 0 m).filter (p a)).map (f a))) S4 ∧
      (∀ j d1 acc1 S5, L1[j]? = some d1 → W1 j acc1 S5 → g1 d1 (dwipe ρ2 vs1) S5 fun ρ3 S6 => tt1 ρ3 S6 fun b1 S7 => Br b1 (te ρ3 S7 fun y S8 => SzOk (acc1.length + 1) ∧ W1 (j + 1) (acc1 ++ [y]) S8) (W1 (j + 1) acc1 S7)) ∧
      (∀ acc1 S5, W1 L1.length acc1 S5 → i + 1 ≤ n.toNat ∧ acc1 = (irg 0 ((i + 1 : Nat) : Int)).flatMap (fun a => ((irg 0 m).filter (p a)).map (f a)) ∧ S5 = S')) _ ?_
    refine ⟨fun j acc1 S5 => j ≤ m.toNat ∧ acc1 = (irg 0 (i : Int)).flatMap (fun a => ((irg 0 m).filter (p a)).map (f a)) ++ ((irg 0 (j : Int)).filter (p i)).map (f i) ∧ S5 = S', ⟨Nat.zero_le _, ?_, rfl⟩, ?_, ?_⟩
    · rw [irg_nil (show ((0 : Nat) : Int) ≤ 0 by omega)]
      simp
    · rintro j d1 acc1 S5 hd1 ⟨hj, rfl, rfl⟩
      obtain ⟨hlt1, rfl⟩ := rngL_get hd1
      rw [Int.zero_add]
      have e : irg 0 ((j + 1 : Nat) : Int) = irg 0 (j : Int) ++ [(j : Int)] := by
        rw [show ((j + 1 : Nat) : Int) = (j : Int) + 1 by omega, irg_snoc (by omega)]
      refine h2 i j (by omega) (by omega) (by omega) (by omega) (fun y S8 => SzOk (_ + 1) ∧ j + 1 ≤ m.toNat ∧ _ ++ [y] = _ ∧ S8 = S5) (fun S7 => j + 1 ≤ m.toNat ∧ _ = _ ∧ S7 = S5) (fun hp => ⟨sz_le ?_, by omega, ?_, rfl⟩) (fun hp => ⟨by omega, ?_, rfl⟩)
      · have a1 := rows2_len (n := n) (m := m) (p := p) (f := f) (l := irg 0 (i : Int))
        have a2 := List.length_filter_le (p i) (irg 0 (j : Int))
        rw [irg_len] at a1 a2
        rw [List.length_append, List.length_map]
        have a3 : ((i : Int) - 0).toNat * m.toNat ≤ 1000 * 1000 := Nat.mul_le_mul (by omega) (by omega)
        omega
      · rw [e, List.filter_append, List.map_append, ← List.append_assoc, List.filter_cons, if_pos hp]; rfl
      · rw [e, List.filter_append, List.filter_cons, if_neg (by rw [hp]; decide)]; simp
    · rintro acc1 S5 ⟨_, rfl, rfl⟩
      refine ⟨by omega, ?_, rfl⟩
      have e : irg 0 ((i + 1 : Nat) : Int) = irg 0 (i : Int) ++ [(i : Int)] := by
        rw [show ((i + 1 : Nat) : Int) = (i : Int) + 1 by omega, irg_snoc (by omega)]
      rw [e, List.flatMap_append, rngL_len, show (((m - 0).toNat : Nat) : Int) = m by omega]
      simp
  · rintro acc S' ⟨_, rfl, rfl⟩
    rw [rngL_len, show (((n - 0).toNat : Nat) : Int) = n by omega]
    exact hq
/-! ### dicts whose keys are pairs, as lists -/
def kvP {α : Type} (v : α → D) (es : List ((Int × Int) × α)) : List (List Key × D) := es.map fun e => (keyP e.1, v e.2)
theorem keyP_inj {p q : Int × Int} (h : keyP p = keyP q) : p = q := by
  injection h with h1 h2
  injection h2 with h2 _
  injection h1 with h1
  injection h2 with h2
  exact Prod.ext h1 h2
theorem keyP_map (p : Int × Int) : (keyP p).map kD = [.int p.1, .int p.2] := rfl
theorem valD_kvP {α : Type} {v : α → D} {x : Int × Int} : ∀ {es : List ((Int × Int) × α)}, valD (kvP v es) (keyP x) = (es.find? fun e => decide (e.1 = x)).map fun e => v e.2
  | [] => rfl
  | e :: es => by
    have ih := valD_kvP (v := v) (x := x) (es := es)
    by_cases h : e.1 = x
    · rw [List.find?_cons_of_pos (by rw [decide_eq_true_eq]; exact h)]
      exact valD_pos (p := (keyP e.1, v e.2)) (by rw [h])
    · rw [List.find?_cons_of_neg (by rw [decide_eq_true_eq]; exact h), ← ih]
      exact valD_neg (p := (keyP e.1, v e.2)) fun z => h (keyP_inj z)
theorem putD_kvP {α : Type} {v : α → D} {x : Int × Int} {y : α} {es : List ((Int × Int) × α)} (h : (es.find? fun e => decide (e.1 = x)) = none) : putD (kvP v es) (keyP x) (v y) = kvP v (es ++ [(x, y)]) := by
  unfold putD
  rw [if_neg (by rw [valD_any, valD_kvP, h]; exact Bool.noConfusion)]
  unfold kvP
  rw [List.map_append]; rfl
theorem putD_kvP_old {α : Type} {v : α → D} {x : Int × Int} {y : α} {es : List ((Int × Int) × α)} {e : (Int × Int) × α} (h : (es.find? fun e => decide (e.1 = x)) = some e) (hv : ∀ e ∈ es, e.1 = x → e.2 = y) : putD (kvP v es) (keyP x) (v y) = kvP v es := by
  unfold putD
  rw [if_pos (by rw [valD_any, valD_kvP, h]; rfl)]
  unfold kvP
  rw [List.map_map]
  refine List.map_congr_left fun e he => ?_
  show (if keyP e.1 = keyP x then (keyP e.1, v y) else (keyP e.1, v e.2)) = (keyP e.1, v e.2)
  by_cases hx : e.1 = x
  · rw [if_pos (by rw [hx]), hv e he hx]
  · rw [if_neg fun z => hx (keyP_inj z)]
theorem kvP_keys {α : Type} {v : α → D} (es : List ((Int × Int) × α)) : (kvP v es).map (·.1) = (es.map (·.1)).map keyP := by unfold kvP; rw [List.map_map, List.map_map]; rfl
theorem kvP_len {α : Type} {v : α → D} (es : List ((Int × Int) × α)) : (kvP v es).length = es.length := by unfold kvP; rw [List.length_map]
/-- x joins, if it isn't there -/
def addK (ps : List (Int × Int)) (x : Int × Int) : List (Int × Int) := if x ∈ ps then ps else ps ++ [x]
abbrev kvT (ps : List (Int × Int)) : List (List Key × D) := kvP (fun _ : Unit => .bl true) (ps.map fun p => (p, ()))
theorem kvT_len (ps : List (Int × Int)) : (kvT ps).length = ps.length := by rw [kvP_len, List.length_map]
theorem kvT_keys (ps : List (Int × Int)) : (kvT ps).map (·.1) = ps.map keyP := by
  rw [kvP_keys, List.map_map]
  rw [List.map_map]; rfl
theorem findK {x : Int × Int} : ∀ {ps : List (Int × Int)}, ((ps.map fun p => (p, ())).find? fun e => decide (e.1 = x)) = if x ∈ ps then some (x, ()) else none
  | [] => rfl
  | p :: ps => by
    have ih := findK (x := x) (ps := ps)
    rw [List.map_cons]
    by_cases h : p = x
    · subst h
      rw [List.find?_cons_of_pos (by simp), if_pos List.mem_cons_self]
    · rw [List.find?_cons_of_neg (by simpa using h), ih]
      by_cases h2 : x ∈ ps
      · rw [if_pos h2, if_pos (List.mem_cons_of_mem _ h2)]
      · rw [if_neg h2, if_neg fun z => by rcases List.mem_cons.mp z with e | e; exact h e.symm; exact h2 e]
theorem putK_T {ps : List (Int × Int)} {x : Int × Int} : putD (kvT ps) (keyP x) (.bl true) = kvT (addK ps x) := by
  unfold addK
  by_cases h : x ∈ ps
  · rw [if_pos h]
    exact putD_kvP_old (v := fun _ : Unit => D.bl true) (y := ()) (findK.trans (if_pos h)) fun _ _ _ => rfl
  · rw [if_neg h]
    have e := putD_kvP (v := fun _ : Unit => D.bl true) (y := ()) (es := ps.map fun p => (p, ())) (x := x) (findK.trans (if_neg h))
    rw [e]
    unfold kvT
    rw [List.map_append]; rfl
theorem addK_mem {ps : List (Int × Int)} {x y : Int × Int} : y ∈ addK ps x ↔ y ∈ ps ∨ y = x := by
  unfold addK
  by_cases h : x ∈ ps
  · rw [if_pos h]
    exact ⟨.inl, fun z => by rcases z with z | z; exact z; rw [z]; exact h⟩
  · rw [if_neg h, List.mem_append, List.mem_singleton]
theorem addK_nodup {ps : List (Int × Int)} {x : Int × Int} (h : ps.Nodup) : (addK ps x).Nodup := by
  unfold addK
  by_cases hx : x ∈ ps
  · rw [if_pos hx]; exact h
  · rw [if_neg hx, List.nodup_append]
    refine ⟨h, by simp, fun a ha b hb e => ?_⟩
    rw [List.mem_singleton.mp hb] at e
    exact hx (e ▸ ha)
theorem addK_len {ps : List (Int × Int)} {x : Int × Int} : (addK ps x).length ≤ ps.length + 1 := by
  unfold addK
  split
  · omega
  · rw [List.length_append]; exact Nat.le_refl _
end DL

/-! ### for k, v in d.items(): d a dict whose keys are tuples -/
namespace DL
open PySem PySem.Spec PyProof.Rows L2
/-- the turns: each a new pair of the key's own tuple and the value -/
def ItiT (d : Addr) (o : Obj) (kvs : List (List Key × V)) : It :=
  ⟨fun i H => H d = some (.frz o (.dT kvs)) ∧ i < kvs.length, fun i H x H' => ∃ (T : Addr) (k : List Key) (v : V) (q : Addr), kvs[i]? = some (k, v) ∧ x = .ref T ∧ H q = some (.tup (k.map kV)) ∧ H T = none ∧ H' = upd H T (.tup [.ref q, v]), fun i H => H d = some (.frz o (.dT kvs)) ∧ kvs.length ≤ i⟩
section
variable {X : Cx} {pins : List (Addr × Obj)} {σ : L2.St} {H : Hp} {s : Shared} {d : Addr} {o : Obj}
theorem inv_frzT {kvs : List (List Key × V)} (I : L2.Inv X pins σ H s) (h : H d = some (.frz o (.dT kvs))) :
    (d == sysModules) = false ∧ ∃ (es : Array DictEntry) (ep : Nat), o.data = .dict es ep ∧ DT.Raw s.heap d es ep ∧ es.size = kvs.length ∧
      ∀ (i : Nat) (k : List Key) (v : V), kvs[i]? = some (k, v) → ∃ (en : DictEntry) (q : Addr), es[i]? = some en ∧ en.key = .ref q ∧ H q = some (.tup (k.map kV)) ∧ L2.RelV v en.val := by
  obtain ⟨hd, z, hs, xs, pr, o', es, ep, ho, hx, hdt, he, _⟩ := I.hok d _ h
  rw [hd] at ho
  cases ho
  refine ⟨hs, es, ep, hdt, ⟨o, hd, hx, hdt⟩, ?_, fun i k v e => ?_⟩
  · have l1 : es.size = xs.length := size_of_entries he
    have l2 : kvs.length = xs.length := Paired.length pr
    omega
  · obtain ⟨b, hb, e1, e2, e3⟩ := L2.paired_get pr e
    have q := entry_at he i
    rw [hb] at q
    exact ⟨_, b.2.1, q, rfl, e2, e3⟩
end
section
variable {P : Program} {w : World} {K : PySem.W.Frag} {d : Addr} {o : Obj} {es : Array DictEntry} {ep : Nat}
theorem turn_itemsT {kvs : List (List Key × V)} {elts : List Expr} {kk : Nat} {tpos : Pos} (it : Addr) (hod : o.data = .dict es ep) :
    Turn P w K (.Tuple elts kk tpos) (ItiT d o kvs) [it] it (fun i h => ∃ ok ov, IsItemIter h it d i kvs.length ep ok ov) where
  mem := by simp
  obj := fun i h st b hb => by
    have e : b = it := by simpa using hb
    subst e
    obtain ⟨ok, ov, e⟩ := st
    exact ⟨_, e, fun v z => nomatch z⟩
  keep := fun i h h' st k => let ⟨ok, ov, e⟩ := st; ⟨ok, ov, k it (by simp) _ e⟩
  item := by
    intro X hP hw hK hc i pins s σ H E I hf st hg
    subst hP hw hK
    obtain ⟨hd, hi⟩ := hg
    obtain ⟨hs, es', ep', hdt, hraw, hsz, ent⟩ := inv_frzT I hd
    obtain ⟨rfl, rfl⟩ := dict_ep hod hdt
    obtain ⟨⟨k, v⟩, hkv⟩ : ∃ p, kvs[i]? = some p := ⟨kvs[i], List.getElem?_eq_getElem hi⟩
    obtain ⟨en, q, hen, hkey, hq, rv⟩ := ent i k v hkv
    obtain ⟨ok, ov, he⟩ := st
    rw [← hsz] at he
    have hlt : it < s.heap.objs.size := Heap.lt_size he
    have hi2 : i < es'.size := by omega
    have een : es'[i] = en := by
      have := Array.getElem?_eq_getElem hi2
      rw [hen] at this
      exact (Option.some.inj this).symm
    refine DT.nextI he hraw hi2 fun h' ho hT hz hk => ?_
    rw [een] at ho hT
    refine ⟨_, rfl, wpAny_letOwnedTupleGo_items (s := { s with heap := h' }) ho fun h'' he' sb => ?_⟩
    have hT2 : h''.get? s.heap.objs.size = some { cls := .type "tuple", data := .seq #[en.key, en.val] } := (sb.2 _ (Nat.ne_of_gt hlt)).trans hT
    have new : ObjOk X.prog X.w (upd H s.heap.objs.size (.tup [.ref q, v])) h'' s.heap.objs.size (.tup [.ref q, v]) :=
      ⟨by show 2 ≤ sizeLine; decide, [en.key, en.val], .cons hkey (.cons rv .nil), ⟨_, hT2, rfl, _, rfl⟩⟩
    have I1 : L2.Inv X pins σ (upd H s.heap.objs.size (.tup [.ref q, v])) { s with heap := h'' } :=
      I.turnedNew (t' := s.toks) (ch := [it]) (fun b ob hb e => (sb.2 b (by simpa using hb)).trans (hk b ob (by simpa using hb) e)) hf (Nat.le_refl _) new
    refine ⟨.ref s.heap.objs.size, _, I1, rfl, ⟨_, k, v, q, hkv, rfl, hq, I.hok.fresh (Nat.le_refl _), rfl⟩, ⟨en.key, en.val, ?_⟩, fun b hb => ?_⟩
    · rw [← hsz]; exact he'
    · have e : b = it := by simpa using hb
      rw [e, upd_ne (Nat.ne_of_lt hlt)]
      exact (hf it (by simp)).1
  done := by
    intro X hP hw hK hc i pins s σ H E I hf st hg
    subst hP hw hK
    obtain ⟨hd, hi⟩ := hg
    obtain ⟨f0, f1, f2, f3, f4, f5⟩ := hf it (by simp)
    obtain ⟨hs, es', ep', hdt, hraw, hsz, ent⟩ := inv_frzT I hd
    obtain ⟨rfl, rfl⟩ := dict_ep hod hdt
    obtain ⟨ok, ov, he⟩ := st
    rw [← hsz] at he
    exact DT.endI (I.ok.hd hc) he hraw (by omega) fun h' eb => ⟨rfl, I.turned (t' := s.toks) (fun b ob hb e => eb b ob hb e) f0 f1 f3 f4 f5⟩
  self := fun A i s Q E st h => let ⟨_, _, e⟩ := st; PySem.W.kcp_self e h
end
def iItemsT (td : TE) : TI := fun σ H R => td σ H fun x H1 => ∃ d o kvs, x = .ref d ∧ H1 d = some (.frz o (.dT kvs)) ∧ R (ItiT d o kvs) H1
section
variable {X : Cx} {e : Expr} {td : TE} {apos cpos : Pos}
theorem pi_itemsT {elts : List Expr} {kk : Nat} {tpos : Pos} (he : PE X e td) (hbase : attributeBase e "items" X.env (eval e X.env) = eval e X.env := by rfl) (hline : (apos.endLine == cpos.line) = true := by rfl) :
    PI X (.Tuple elts kk tpos) (.Call (.Attribute e "items" apos) [] [] cpos) (iItemsT td) := by
  refine ⟨fun pins s σ H R I h => ?_⟩
  refine wpAny_Call_method (T := "dict") (id := "dict.items") hbase rfl hline F.plainAttrs_dict F.slot_dict_items F.type_dict_items (thn (he.run pins s σ H _ I h) fun u s1 ⟨x, H1, I1, rx, d, o, kvs, ex, hd, q⟩ => ?_)
  subst ex
  obtain rfl : u = Value.ref d := rx
  obtain ⟨hs, es, ep, hdt, hraw, hsz, ent⟩ := inv_frzT I1 hd
  refine ⟨hraw.typeIs, ?_, ?_⟩
  · obtain ⟨o2, ho2, hx2, _⟩ := hraw
    exact fun b hb => by cases hb; exact ⟨o2, ho2, hx2.2.1⟩
  have I2 : L2.Inv X pins σ H1 { s1 with heap := s1.heap.push { cls := .type "dict_items", data := .fields #[.ref d] } } := I1.kept (t' := s1.toks) fun b ob q => Heap.get?_push_of_some _ q
  have fin : wpAny (model X.prog X.w) X.A (pyIter (.ref s1.heap.objs.size)) (PIE X pins σ (.Tuple elts kk tpos) R) X.xe { s1 with heap := s1.heap.push { cls := .type "dict_items", data := .fields #[.ref d] } } := by
    refine DT.iterI (d := d) (es := es) (ep := ep) ⟨_, Heap.get?_push_size _ rfl, rfl, rfl⟩ (hraw.push _) (pi_one (tk := s1.toks) I2 _ (turn_itemsT _ hdt) ⟨.none, .none, ?_⟩ q)
    rw [← hsz]
    exact Heap.get?_push_size _ rfl
  show wpAny _ _ (callWith cpos (.builtin "dict.items") [.ref d] [] []) _ X.xe s1
  exact method_meetsIn F.slot_dict_items F.entry_dict_items rfl (PySem.evalArgs_none ⟨rfl, hraw.typeIs, F.args_dict_items_1 _, _, DT.meetsItems (es := es) (ep := ep) hs, hraw, fin⟩)
end
/-! the reading: the dict is out of sight within the loop -/
theorem vis_hide {S : Sto} {a : Addr} : vis (updS S a .hid) = eraS (vis S) a := by
  funext b
  unfold vis updS eraS
  by_cases e : b = a
  · rw [if_pos e, if_pos e]
  · rw [if_neg e, if_neg e]
def kvD (kv : List Key × D) : D := .tup [.tup (kv.1.map kD), kv.2]
structure dForT (i : Nat) (g : TDG) (tb : TDS) (D : DEnds) (ρ : DSt) (S : Sto) : Prop where
  go : ∃ a kvs, slot ρ i = some (.ref a) ∧ S a = some (.dT kvs) ∧ ∃ W : Nat → DSt → Sto → Prop, W 0 ρ (eraS S a) ∧
    (∀ n kv ρ' S', kvs[n]? = some kv → W n ρ' S' → g (kvD kv) ρ' S' fun ρ2 S2 => tb { D with nx := W (n + 1), ct := W (n + 1), bk := fun ρ3 S3 => D.nx ρ3 (updS S3 a (.dT kvs)), rt := fun v S3 => D.rt v (updS S3 a (.dT kvs)) } ρ2 S2) ∧
    ∀ ρ' S', W kvs.length ρ' S' → D.nx ρ' (updS S' a (.dT kvs))
theorem rep_kd {K : PySem.W.Frag} {H : Hp} {S : Sto} : ∀ {k : List Key}, RepL K H S (k.map kV) (k.map kD)
  | [] => .nil
  | .inl i :: k => .cons (.int i) rep_kd
  | .inr x :: k => .cons (.str x) rep_kd
theorem ds_forT {X : Cx} {i : Nat} {x : Str} {epos apos cpos pos : Pos} {elts : List Expr} {kk : Nat} {tpos : Pos} {body : List Stmt} {g : TG} {dg : TDG} {is : List Nat} {tb : TS} {db : TDS} (hp : PassesOwn (model X.prog X.w) X.A X.env X.xe) (hc : X.calm = true)
    (he : DE X (.Name x epos) (tVar i) (dVar i)) (hg : DG X (.Tuple elts kk tpos) g dg is) (hb : DSs X body tb db)
    (hs : ∀ x', foldedSetIterable (.Call (.Attribute (.Name x epos) "items" apos) [] [] cpos) X.env x' = pure x' := by intro _; rfl)
    (hbase : attributeBase (.Name x epos) "items" X.env (eval (.Name x epos) X.env) = eval (.Name x epos) X.env := by rfl) (hline : (apos.endLine == cpos.line) = true := by rfl) :
    DS X (.For (.Tuple elts kk tpos) (.Call (.Attribute (.Name x epos) "items" apos) [] [] cpos) body [] pos) (tLock (tFor (iItemsT (tVar i)) g tb)) (dForT i dg db) :=
  ⟨ps_lock (ps_for hp hc (pi_itemsT he.pe hbase hline) hg.pg hb.ps hs), fun σ H ρ S D E w rs q c => by
    obtain ⟨a, kvs, hsl, hva, W, w0, hstep, hend⟩ := q.go
    obtain ⟨v, hv, rv⟩ := rs.at hsl
    cases rv
    have hSa := vis_of hva
    obtain ⟨vs, hH, rkv⟩ := w a _ hSa.1
    have hlen := repKV_len rkv
    refine ⟨a, .dT vs, hH, trivial, fun od => ?_⟩
    have s1 : Step H S (upd H a (.frz od (.dT vs))) (updS S a .hid) := Step.chg hSa.1 hSa.2
    have w1 : Wd X.K (upd H a (.frz od (.dT vs))) (updS S a .hid) := w.chg hSa.1 hSa.2 (.inr ⟨od, _, upd_same⟩)
    have v1 : vis (updS S a .hid) = eraS (vis S) a := vis_hide
    -- leaving: the dict is seen again
    have back : ∀ {H' : Hp} {S' : Sto}, Wd X.K H' S' → Step (upd H a (.frz od (.dT vs))) (updS S a .hid) H' S' → H' a = some (.frz od (.dT vs)) ∧ Keep H' S' (upd H' a (.dT vs)) (updS S' a (.dT kvs)) ∧ Wd X.K (upd H' a (.dT vs)) (updS S' a (.dT kvs)) ∧ Step H S (upd H' a (.dT vs)) (updS S' a (.dT kvs)) ∧ vis (updS S' a (.dT kvs)) = updS (vis S') a (.dT kvs) := fun {H' S'} w' s' => by
      obtain ⟨e1, e2⟩ := s'.hid a updS_same
      have kp : Keep H' S' (upd H' a (.dT vs)) (updS S' a (.dT kvs)) := fun b o h n => by
        have hb : b ≠ a := fun z => by rw [z, e2] at n; cases n
        exact ⟨by rw [upd_ne hb]; exact h, by rw [updS_ne hb]; exact n⟩
      have kk := (s1.keep.trans s'.keep).trans kp
      refine ⟨e1.trans upd_same, kp, fun b m e => ?_, ⟨kk, fun b e => ?_⟩, vis_upd (by intro z; cases z)⟩
      · by_cases hb : b = a
        · subst hb
          rw [updS_same] at e
          cases e
          exact ⟨vs, upd_same, RepKV.monoK kk rkv⟩
        · rw [updS_ne hb] at e
          exact (w' b m e).monoK kp (upd_ne hb)
      · have hb : b ≠ a := fun z => by rw [z, hSa.1] at e; cases e
        obtain ⟨f1, f2⟩ := s1.hid b e
        obtain ⟨g1, g2⟩ := s'.hid b f2
        exact ⟨by rw [upd_ne hb, g1, f1], by rw [updS_ne hb]; exact g2⟩
    have rsK2 : ∀ {H' : Hp} {S' : Sto} {H2 : Hp} {S2 : Sto} {σ' : L2.St} {ρ' : DSt}, RepSt X.K H' S' σ' ρ' → Keep H' S' H2 S2 → RepSt X.K H2 S2 σ' ρ' := fun r k => rsK r k
    refine ⟨.ref a, hv, a, od, vs, rfl, upd_same, ?_⟩
    refine ⟨fun n m σ' H' => n ≤ kvs.length ∧ m = kvs.length - n ∧ ∃ ρ' S', RepSt X.K H' S' σ' ρ' ∧ Wd X.K H' S' ∧ Step (upd H a (.frz od (.dT vs))) (updS S a .hid) H' S' ∧ W n ρ' (vis S'), ⟨_, Nat.zero_le _, rfl, ρ, updS S a .hid, rs.mono s1, w1, Step.refl, by rw [v1]; exact w0⟩, ?_⟩
    rintro n m σ' H' ⟨hil, rfl, ρ', S', rs', w', s', hw⟩
    have hHa := (back w' s').1
    by_cases hlt : n < kvs.length
    · have hd : kvs[n]? = some kvs[n] := List.getElem?_eq_getElem hlt
      refine .inr ⟨⟨hHa, by omega⟩, fun σ2 H2 => ∃ ρ2 S2, RepSt X.K H2 S2 σ2 ρ2 ∧ Wd X.K H2 S2 ∧ Step (upd H a (.frz od (.dT vs))) (updS S a .hid) H2 S2 ∧ W (n + 1) ρ2 (vis S2), fun σ2 H2 hN => ⟨kvs.length - (n + 1), by omega, hlt, rfl, hN⟩, fun y H2 yy => ?_⟩
      obtain ⟨T, k, u, qk, hkv, rfl, hq, hT, rfl⟩ := yy
      have hS'a : S' a = some .hid := (s'.hid a updS_same).2
      have st2 := Step.new (o := .tup [.ref qk, u]) w' hT
      have w2 := w'.new (o := .tup [.ref qk, u]) hT
      have rkv2 := RepKV.monoK (s1.keep.trans s'.keep) rkv
      obtain ⟨kv', hkv', ek, ru⟩ := L2.paired_get rkv2 hkv
      rw [hd] at hkv'
      cases hkv'
      have hqS : S' qk = none := w'.tupNo hq
      have r2 : Rep X.K (upd H' T (.tup [.ref qk, u])) S' (.ref T) (kvD kvs[n]) := by
        refine .tup upd_same (w'.free hT) (.cons ?_ (.cons (ru.mono st2) .nil))
        have hq2 := (st2.keep qk _ hq hqS).1
        rw [← ek]
        exact .tup hq2 hqS rep_kd
      refine hg.ab _ _ σ' _ ρ' S' _ _ r2 w2 (rs'.mono st2) (hstep n _ ρ' (vis S') hd hw) fun σ3 H3 ρ3 S3 rs3 w3 s3 _ q3 => ?_
      have st : Step (upd H a (.frz od (.dT vs))) (updS S a .hid) H3 S3 := (s'.trans st2).trans s3
      refine hb.ab σ3 H3 ρ3 S3 _ _ w3 rs3 q3 ⟨fun σ4 H4 ρ4 S4 rs4 w4 s4 q4 => ⟨ρ4, S4, rs4, w4, st.trans s4, q4⟩, fun σ4 H4 ρ4 S4 rs4 w4 s4 q4 => ?_, fun σ4 H4 ρ4 S4 rs4 w4 s4 q4 => ⟨ρ4, S4, rs4, w4, st.trans s4, q4⟩, fun v4 H4 d4 S4 r4 w4 s4 q4 => ?_⟩
      · obtain ⟨b1, b2, b3, b4, b5⟩ := back w4 (st.trans s4)
        exact ⟨b1, c.nx _ _ _ _ (rsK2 rs4 b2) b3 b4 (by rw [b5]; exact q4)⟩
      · obtain ⟨b1, b2, b3, b4, b5⟩ := back w4 (st.trans s4)
        exact ⟨b1, c.rt _ _ _ _ (r4.monoK b2) b3 b4 (by rw [b5]; exact q4)⟩
    · have e : n = kvs.length := by omega
      subst e
      obtain ⟨b1, b2, b3, b4, b5⟩ := back w' s'
      exact .inl ⟨⟨hHa, by omega⟩, b1, c.nx _ _ _ _ (rsK2 rs' b2) b3 b4 (by rw [b5]; exact hend ρ' (vis S') hw)⟩⟩
end DL

/-! ### {(..): v}: one pair, the key a tuple -/
namespace DL
open PySem PySem.Spec PyProof.Rows L2
def tDispT (tk tv : TE) : TE := fun σ H Q => ∀ p, H p = none → tPairs [(tk, tv)] σ (upd H p (.dT [])) fun ps H2 => H2 p = some (.dT []) ∧ ∃ (b : Addr) (k : List Key) (v : V), ps = [(.ref b, v)] ∧ H2 b = some (.tup (k.map kV)) ∧ Q (.ref p) (upd H2 p (.dT [(k, v)]))
theorem pe_dispT {X : Cx} {pos : Pos} {k v : Expr} {tk tv : TE} (hu : X.A.units < cLine) (h : PPs X pos [some k] [v] [(tk, tv)]) : PE X (.Dict [some k] [v] pos) (tDispT tk tv) := by
  refine ⟨fun pins s σ H Q I q => ?_⟩
  have hn := I.hok.fresh (Nat.le_refl s.heap.objs.size)
  have I1 := I.laid (a := s.heap.objs.size) (o := .dT []) (h' := s.heap.push { cls := .type "dict", data := .dict #[] }) (t' := s.toks) (fun _ _ q => Heap.get?_push_of_some _ q) (Nat.le_refl _) (dt_empty s.heap I.big)
  have hshape := zip_pairTrees [some k] [v] X.env pos rfl rfl
  have hlen := pairTrees_length [some k] [v] X.env pos rfl rfl
  have h0 : pairTrees [some k] [v] X.env pos ≠ [] := fun e => by rw [e] at hlen; cases hlen
  have hl15 : (pairTrees [some k] [v] X.env pos).length ≤ 15 := by rw [hlen]; exact Nat.le_of_ble_eq_true rfl
  rw [arm_eval_Dict, hshape, dictDisplay_pairs _ h0 (by omega)]
  refine wpAny_bind (wpAny_standAt (wpAny_bind (wpAny_subDictH (knd := tupleKind (mixKind X.prog X.w)) (Q := fun d s' => wpAny (model X.prog X.w) X.A (pure (Value.ref d)) (EP X pins σ Q) X.xe s') hu hl15 ?_)))
  refine thn (h.run pins _ σ _ _ I1 (q _ hn)) fun ws s2 ⟨ps, H2, I2, rel, e, b, ks, u, ep, hb, q2⟩ => ?_
  subst ep
  cases rel with
  | @cons _ w2 _ _ r rt =>
    cases rt
    obtain ⟨wk, wv⟩ := w2
    obtain ⟨r1, r2⟩ := r
    have e3 : wk = Value.ref b := r1
    subst e3
    obtain ⟨z, hd, xs0, r0, dd⟩ := dt_of I2.hok e
    cases r0
    refine ⟨[(ks, b, wv)], ⟨rfl, rfl, key_of I2.hok hb, trivial⟩, dd, fun h' tk' dd' hs => wpAny_pure ?_⟩
    obtain ⟨o', es, ep2, hq, h2, h3, h4, _, h5⟩ := dd'
    refine ⟨.ref s.heap.objs.size, _, ?_, rfl, q2⟩
    refine d_write I2 (by rw [e]; exact True.intro) hs ⟨o', hq⟩ ⟨by rw [sizeLine_eq]; show 1 ≤ _; decide, hd, _, .cons ⟨rfl, ?_, r2⟩ .nil, o', es, ep2, hq, h2, h3, h4, h5⟩
    rw [upd_ne (ne_of hb e (fun z => nomatch z))]
    exact hb
/-- the reading -/
structure KeyT (S : Sto) (p : Addr) (d v : D) (Q : List Key → Prop) : Prop where
  get : S p = some (.dT []) ∧ ∃ k : List Key, d = .tup (k.map kD) ∧ Q k
def dDispT (tk tv : TD) : TD := fun ρ S Q => ∀ p, S p = none → tk ρ (updS S p (.dT [])) fun x S1 => tv ρ S1 fun y S2 => KeyT S2 p x y fun k => Q (.ref p) (updS S2 p (.dT [(k, y)]))
theorem de_dispT {X : Cx} {pos : Pos} {k v : Expr} {tk tv : TE} {dk dv : TD} (hu : X.A.units + 64 < cLine) (hk : DE X k tk dk) (hv : DE X v tv dv) : DE X (.Dict [some k] [v] pos) (tDispT tk tv) (dDispT dk dv) :=
  ⟨pe_dispT (by omega) (pps_cons hk.pe hv.pe pps_nil), fun σ H ρ S Q Qv w rs q kk p hp => by
    have st := Step.newS (o := .dT []) (m := .dT []) w hp
    have w0 := w.newS (o := .dT []) (m := .dT []) hp ⟨[], upd_same, .nil⟩
    have q := q p (vis_none (w.free hp))
    rw [← vis_upd (by intro z; cases z)] at q
    refine hk.ab σ _ ρ _ _ _ w0 (rs.mono st) q fun x H1 dx S1 r1 w1 s1 q1 => hv.ab σ H1 ρ S1 _ _ w1 (rs.mono (st.trans s1)) q1 fun y H2 dy S2 r2 w2 s2 q2 => ?_
    obtain ⟨h2, ks, rfl, q5⟩ := q2.get
    have r1 := r1.mono s2
    obtain ⟨b, rfl, hb⟩ := rep_tupkey r1
    obtain ⟨vs0, e0, r0⟩ := w2 p _ (vis_of h2).1
    cases r0
    refine ⟨e0, b, ks, y, rfl, hb, ?_⟩
    have st3 := Step.chg (H := H2) (o := .dT [(ks, y)]) (m := .dT [(ks, dy)]) (vis_of h2).1 (vis_of h2).2
    refine kk _ _ _ _ (.ref p) (w2.chg (m := .dT [(ks, dy)]) (vis_of h2).1 (vis_of h2).2 ⟨_, upd_same, .cons ⟨rfl, r2.mono st3⟩ .nil⟩) (((st.trans s1).trans s2).trans st3) ?_
    rw [vis_upd (by intro z; cases z)]
    exact q5⟩
end DL

namespace DL
open PySem PySem.Spec PyProof.Rows L2
/-! ### text.join(list of texts) -/
def joinD : RD2 := fun x y S Q => match x, y with
  | .str a, .lst ds => ∃ ys : List Str, ds = ys.map D.str ∧ (ys.map (·.length)).sum + ys.length * a.length ≤ 16777216 ∧ Q (.str (Txt.join a ys)) S
  | _, _ => False
def dJoin (t u : TD) : TD := fun ρ S Q => t ρ S fun x S1 => (match x with | .str _ => True | _ => False) ∧ u ρ S1 fun y S2 => RdP joinD S2 x y Q
def rJoin (K : PySem.W.Frag) : V → List V → Hp → VK → Prop := fun x xs H Q => ∃ a p, ∃ ys : List Str, x = .str a ∧ xs = [.ref p] ∧ (SqL K H p (ys.map V.str) ∨ SqT K H p (ys.map V.str)) ∧
    (ys.map (·.length)).sum + ys.length * a.length ≤ 16777216 ∧ Q (.str (Txt.join a ys)) H
section
variable {X : Cx} {K : PySem.W.Frag} {o e : Expr} {to te : TE} {d1 d2 : TD} {apos pos : Pos}
theorem de_join (ho : DE X o to d1) (he : DE X e te d2) (hK : X.K = K := by rfl) (b : Bm1 X o "join" apos e pos := by exact ⟨rfl, rfl, rfl, rfl, rfl⟩) :
    DE X (.Call (.Attribute o "join" apos) [e] [] pos) (tBM K "str" (rJoin K) to (tCons te tNil)) (dJoin d1 d2) := by
  subst hK
  refine ⟨b.pe PySem.F.plainAttrs_str PySem.F.slot_str_join PySem.F.type_str_join mt_join ho.pe he.pe, fun σ H ρ S Q Qv w rs q k => ho.ab σ H ρ S _ _ w rs q fun v H1 x S1 r w1 s1 q1 => ?_⟩
  obtain ⟨hx, q1⟩ := q1
  cases x with
  | str a =>
    cases r
    refine ⟨rfl, he.ab σ H1 ρ S1 _ _ w1 (rs.mono s1) q1 fun y H2 d S2 r2 w2 s2 q2 => ?_⟩
    have ry := peek_rep w2 r2
    have q2 := q2.go
    rw [show peek (vis S2) (.str a) = .str a from rfl] at q2
    generalize peek (vis S2) d = d' at ry q2
    cases d' with
    | lst ds =>
      obtain ⟨ys, rfl, hz, q2⟩ := q2
      obtain ⟨p, us, rfl, h1, h2⟩ := ry.lst
      rw [RepL.strs_of h2] at h1
      exact ⟨a, p, ys, rfl, rfl, .inl (SqL.of h1), hz, k _ _ _ _ (.str _) w2 (s1.trans s2) q2⟩
    | _ => exact q2.elim
  | _ => exact hx.elim
end
theorem joinL_nil : ∀ l : List (List Nat), TL.joinL [] l = l.flatten
  | [] => rfl
  | [p] => by simp [TL.joinL]
  | p :: q :: r => by
    show p ++ ([] ++ TL.joinL [] (q :: r)) = _
    rw [joinL_nil (q :: r)]; rfl
/-- the texts of single sides, put together -/
theorem join_sd (w : List Bool) : Txt.join ("" : Str) (w.map sd) = tx w := by
  have e : w.map sd = (w.map fun b => [cpS b]).map SX.S := by
    rw [List.map_map]
    exact List.map_congr_left fun b _ => (sd_cp b).symm
  rw [e, show ("" : Str) = SX.S [] from by decide +kernel, SX.join_S, joinL_nil]
  show (⟨((w.map fun b => [cpS b]).flatten).toArray⟩ : Str) = ⟨(w.map cpS).toArray⟩
  congr 2
  induction w with
  | nil => rfl
  | cons b w ih => rw [List.map_cons, List.map_cons, List.flatten_cons, ih (by rw [List.map_map]; exact List.map_congr_left fun b _ => (sd_cp b).symm)]; rfl
end DL

/-! ### sorted(set(list of ints)), fewer than 64 items -/
namespace DL
open PySem PySem.Spec PyProof.Rows L2
theorem sb64 : 1000 < scanBound := by unfold scanBound; decide
section
variable {P : Program} {w : World} {A : Around} {E : Value → Shared → Prop} {s : Shared}
abbrev freshSet (w : World) : Obj := { cls := .type "set", dict := none, data := .set #[] 0 (.fresh 0 0 (!w.params.followText "set-order")) }
abbrev afterSet (w : World) (ns : List Int) (s : Shared) (s2 : Shared) : Prop := ∃ h' tk c, s2 = { s with heap := h', toks := tk } ∧ SetR w h' s.heap.objs.size (fun j => decide (j ∈ ns)) c ∧ c ≤ ns.length ∧ ∀ b o, s.heap.get? b = some o → h'.get? b = some o
theorem call_set_listI {l : Addr} {items : Array Value} (ns : List Int) {Q : Value → Shared → Prop} (hh : A.handled = none) (hl : s.heap.IsList l items) (hit : IntsAre items.toList ns) (hb : ns.length + 1 < scanBound)
    (h : ∀ (h' : Heap) (tk c : Nat), SetR w h' s.heap.objs.size (fun j => decide (j ∈ ns)) c → c ≤ ns.length → (∀ b o, s.heap.get? b = some o → h'.get? b = some o) → Q (.ref s.heap.objs.size) { s with heap := h', toks := tk }) :
    wpAny (model P w) A (call (.type "set") [.ref l]) Q E s := by
  have hisz : items.size = ns.length := by
    have q := IntsAre.length hit
    rw [Array.length_toList] at q
    exact q
  obtain ⟨c, tl, hmro⟩ := F.called_set.mro
  have hmade := F.called_set.made
  have hsub := F.called_set.sub
  refine wpAny_call (codeAny_of_tree ?_)
  show wpAny _ _ (callAny (.type "set") _) _ _ _
  refine wpAny_pure ⟨Code.quiet_builtin _ (by decide +kernel), codeAny_builtin F.entry_type_call ?_⟩
  rw [Around.under_plain (weight_type_call_type "set" [.ref l] []) rfl]
  have h1 := F.called_set.notType
  have h2 := F.called_set.canCreate
  have hct := F.typeCall_set_1 (.ref l)
  repeat (any_goals (first | assumption | wp_step))
  refine codeAny_mono (code_set_led1 (.ref l) (E := E) (Q₁ := fun obj s₁ => obj = .ref s.heap.objs.size ∧ s₁ = { s with heap := s.heap.push (freshSet w) }) ⟨rfl, rfl⟩) fun r s₁ hr => ?_
  cases r with
  | error e => exact hr
  | ok fl =>
    cases fl with
    | ret obj =>
      obtain ⟨rfl, rfl⟩ := hr
      have hS : (s.heap.push (freshSet w)).get? s.heap.objs.size = some (freshSet w) := Heap.get?_push_size _ rfl
      have hT : Shared.TypeIs { s with heap := s.heap.push (freshSet w) } (.ref s.heap.objs.size) "set" := ⟨_, hS, rfl⟩
      have hli := F.called_set.init.lookup
      have hbi := F.called_set.init.bind (.ref s.heap.objs.size)
      repeat (any_goals (first | assumption | wp_step))
      refine codeAny_mono (codeAny_call_builtin (R := wants (fun r s₂ => r = .none ∧ afterSet w ns s s₂) E) F.called_set.init.plain F.entry_set_init (check_set_init_1 hT ?_)) fun r₂ s₂ hr₂ => ?_
      · obtain ⟨⟨ocls, odict, odata, oslots⟩, hol, hcl, nl, hdl⟩ := hl
        simp only at hcl hdl
        subst hcl hdl
        have hol' : (s.heap.push (freshSet w)).get? l = some { cls := .type "list", dict := odict, data := .seq items nl, slots := oslots } := Heap.get?_push_of_some _ hol
        have hsls := F.sub_list_set
        have hslf := F.sub_list_frozenset
        have hne : (Value.type "list" == Value.type "dict") = false := by decide
        have hl1 : (s.heap.push (freshSet w)).IsList l items := ⟨_, hol', rfl, nl, rfl⟩
        unfold Builtin.«set.__init__» noKeywords Builtin.Frozenset.updateFrom
        generalize hPI : pyIter = PI
        wp_walk
        subst hPI
        refine wpAny_pyIter_list hl1 ?_
        refine wpAny_bind (wpAny_runValue ?_)
        have hlS : l < s.heap.objs.size := Heap.lt_size hol
        have hh3 : A.in1.in1.in1.handled = none := by simp [hh]
        have hsz : (s.heap.push (freshSet w)).objs.size = s.heap.objs.size + 1 := Heap.size_push ..
        have hneI : l ≠ (s.heap.push (freshSet w)).objs.size := by rw [hsz]; exact Nat.ne_of_lt (Nat.lt_succ_of_lt hlS)
        have hSf : s.heap.objs.size ∉ [(s.heap.push (freshSet w)).objs.size, l] := by
          rw [hsz]
          intro hm
          rcases List.mem_cons.mp hm with e | e
          · exact Nat.ne_of_lt (Nat.lt_succ_self _) e
          · exact Nat.ne_of_gt hlS (List.mem_singleton.mp e)
        have hval : ∀ (i : Nat) (v : Value), items[i]? = some v → ∃ k t, ns[i]? = some k ∧ v = .int k t := fun i v hv => by
          have hi : i < ns.length := by rw [← hisz]; exact (Array.getElem?_eq_some_iff.mp hv).1
          obtain ⟨t, e⟩ := PyProof.Rows.IntsAre.int_at hit i v (by rw [Array.getElem?_toList]; exact hv)
          exact ⟨ns[i], t, List.getElem?_eq_getElem hi, by rw [e, List.getD_eq_getElem?_getD, List.getElem?_eq_getElem hi]; rfl⟩
        refine set_update_ints ((Walks.list hh3 _ l hneI items).toS) s.heap.objs.size
          hSf ns hisz hb hval (items.size - 0) 0 _ (by omega) (Nat.zero_le _)
          ⟨⟨_, Heap.get?_push_size _ rfl, rfl, rfl⟩, (hl1.push _)⟩ ⟨0, Nat.le_refl 0, setR_new_at (Heap.get?_push_of_some _ hS)⟩ ?_
        intro s' c' hm hc' hS'
        obtain ⟨h', g2, d', tk', os'⟩ := s'
        have eg : g2 = s.gens := hm.gens
        have ed : d' = s.drawn := hm.drawn
        have eo : os' = s.os := hm.os
        subst eg; subst ed; subst eo
        show wpAny _ _ _ _ _ _
        refine wpAny_pure ?_
        show wpAny _ _ (ret Value.none) _ _ _
        rw [hisz] at hc'
        refine wpAny_pure ⟨rfl, h', tk', c', rfl, hS', hc', fun b o e => ?_⟩
        have hb0 : b < s.heap.objs.size := Heap.lt_size e
        refine hm.heap b o (fun hm2 => ?_) (Heap.get?_push_of_some _ (Heap.get?_push_of_some _ e))
        rcases List.mem_cons.mp hm2 with e2 | e2
        · exact Nat.ne_of_lt hb0 e2
        · have e3 := List.mem_singleton.mp e2
          rw [hsz] at e3
          exact Nat.ne_of_lt (Nat.lt_succ_of_lt hb0) e3
      · cases r₂ with
        | error e => exact hr₂
        | ok fl₂ =>
          cases fl₂ with
          | ret r =>
            obtain ⟨rfl, h', tk, c', rfl, hS', hc', hk'⟩ := hr₂
            repeat (any_goals (first | assumption | wp_step))
            exact h _ _ _ hS' hc' hk'
          | _ => exact hr₂.elim
    | _ => exact hr.elim
end
section
variable {X : Cx}
def rSetOfI (K : PySem.W.Frag) (w : World) : List V → Hp → VK → Prop := fun xs H Q => ∃ (l : Addr) (ns : List Int), xs = [V.ref l] ∧ SqL K H l (ns.map V.int) ∧ ns.length < 64 ∧
  ∀ a c, H a = none → c < 64 → Q (.ref a) (upd H a (SetO w a (fun j => decide (j ∈ ns)) c))
theorem cr_setOfI (hc : X.calm = true) : CallR X (.type "set") (rSetOfI X.K X.w) := by
  intro pins s σ H xs us Q I r h
  obtain ⟨l, ns, rfl, hl, hf, q⟩ := h
  rw [Vals.ref1 r]
  obtain ⟨its, rv, pl, hz⟩ := I.list hl
  have hn : H s.heap.objs.size = none := I.hok.fresh (Nat.le_refl _)
  refine call_set_listI (P := X.prog) (w := X.w) ns (I.ok.hd hc) pl.isList (by simpa using ints_of_vals rv) (by have := sb64; omega) fun h' tk c R hcn k => ?_
  exact ⟨.ref s.heap.objs.size, upd H s.heap.objs.size (SetO X.w s.heap.objs.size (fun j => decide (j ∈ ns)) c), I.laid (t' := tk) k (Nat.le_refl _) (setO_new R), rfl, q _ c hn (by omega)⟩
def dSortSetI (t : TD) : TD := fun ρ S Q => t ρ S fun x S1 => PeekP S1 x fun x0 => match x0 with
  | .lst ds => ∃ ns : List Int, ds = ns.map D.int ∧ ns.length < 64 ∧ ∀ ms : List Int, ms.Pairwise (· < ·) → (∀ k, k ∈ ms ↔ k ∈ ns) → Q (.lst (ms.map D.int)) S1
  | _ => False
theorem de_sortSetI {K : PySem.W.Frag} {p p2 pos pos2 : Pos} {e : Expr} {te : TE} {t : TD} (hc : X.calm = true) (hg : Gl X "sorted") (hm : X.mg "sorted" = none) (hg2 : Gl X "set") (hm2 : X.mg "set" = none) (he : DE X e te t)
    (hK : X.K = K := by rfl)
    (he1 : starEach [e] X.env = (false, eval e X.env) :: starEach [] X.env := by rfl) (hpl : (backTo pos2 (starEach [] X.env)).any (·.1) = false := by rfl)
    (he2 : starEach [.Call (.Name "set" p2) [e] [] pos2] X.env = (false, eval (.Call (.Name "set" p2) [e] [] pos2) X.env) :: starEach [] X.env := by rfl) (hpl2 : (backTo pos (starEach [] X.env)).any (·.1) = false := by rfl) :
    DE X (.Call (.Name "sorted" p) [.Call (.Name "set" p2) [e] [] pos2] [] pos) (tCB (rSortedSet X.w) (tCons (tCB (rSetOfI X.K X.w) (tCons te tNil)) tNil)) (dSortSetI t) := by
  refine ⟨pe_callB (cr_sortedSet hc) hg hm bb_sorted (pa_cons (pe_callTy (cr_setOfI hc) hg2 hm2 bb_set (pa_cons he.pe pa_nil he1) (by decide) (by decide) he1 hpl) pa_nil he2) (by decide) (by decide) he2 hpl2, fun σ H ρ S Q Qv w rs q k => he.ab σ H ρ S _ _ w rs q fun v H1 x S1 r1 w1 s1 q1 => ?_⟩
  have rr := peek_rep w1 r1
  have q1 := q1.go
  generalize peek (vis S1) x = x' at rr q1
  cases x' with
  | lst ds =>
    obtain ⟨ns, rfl, hl, q1⟩ := q1
    obtain ⟨a, us, rfl, h1, h2⟩ := rr.lst
    rw [RepL.ints_of h2] at h1
    refine ⟨a, ns, rfl, SqL.of h1, hl, fun a2 c ha2 hc2 => ?_⟩
    have st := Step.new (o := SetO X.w a2 (fun j => decide (j ∈ ns)) c) w1 ha2
    have w2 := w1.new (o := SetO X.w a2 (fun j => decide (j ∈ ns)) c) ha2
    refine ⟨a2, _, c, rfl, upd_same, hc2, fun ms p3 hp3 hm3 hl3 h3 => ?_⟩
    have st3 := Step.new (o := .lst (ms.map V.int)) w2 h3
    exact k _ _ _ _ (.lst upd_same (w2.free h3) RepL.ints) (w2.new h3) ((s1.trans st).trans st3) (q1 ms hp3 fun k => by rw [hm3]; exact decide_eq_true_iff)
  | _ => exact q1.elim
end
end DL

/-! for inside a generator's body -/
namespace L2
open PySem PySem.Spec PyProof.Rows GenW
section
variable {M : Model} {A : Around} {R : GenEnd} {Y : Protocol} {n : Nat} {s₀ : Shared} {c : Code} {fs : List Frame} {s : Shared} {env : Env}
  {K : Flow → Sem PySem.Fin} {J : Value → Sem PySem.Fin} {gd : Bool → Bool} {lv : List Value → List Value}
theorem segF_For {tg iter : Expr} {body orelse : List Stmt} {pos : Pos} (hs : ∀ x, foldedSetIterable iter env x = pure x)
    (h : wpAny M (A.over c fs) (eval iter env) (fun x s1 => wpAny M (A.over c fs) (pyIter x) (fun it s2 => ∀ p, Seg M A R Y n s₀ (.forLoop tg it body orelse env) (M.den (.forLoop tg it body orelse env))
      (.ret (fun r => ((match r with | .ok f => (.pure f : Sem Flow) | .error e => .raise e).onRaise (cameBack env)).wrap K J gd lv) none (gd false) (lv []) c p [] :: fs) s2)
        (fun x s' => Seg M A R Y n s₀ c (J x) fs s') s1) (fun x s' => Seg M A R Y n s₀ c (J x) fs s') s) :
    Seg M A R Y n s₀ c ((exec (.For tg iter body orelse pos) env).wrap K J gd lv) fs s := by
  rw [exec_For]
  refine seg_bind_wrap (wpAny_standAt ?_)
  refine seg_bind_wrap (wpAny_mono h (fun x s1 h1 => ?_) fun _ _ h' => h')
  refine seg_bind_wrap (wpAny_of_eq (hs x) ?_)
  refine seg_bind_wrap (wpAny_standAt ?_)
  refine seg_bind_wrap (wpAny_holding (wpAny_mono h1 (fun it s2 h2 => ?_) fun _ _ h' => h'))
  exact seg_call h2
end
section
variable {prog : Program} {w : World} {A : Around} {R : GenEnd} {Y : Protocol} {n : Nat} {s₀ : Shared} {fs : List Frame} {s : Shared} {env : Env}
abbrev noted (env : Env) (e : Value) : Sem PySem.Fin := (do noteFrame e env; theTreesLotGoes e : Sem Unit).wrap (fun _ => .raise e) .raise id id
theorem segF_loop {tg : Expr} {it : Value} {body orelse : List Stmt}
    (h : wpAny (model prog w) (A.over (.forLoop tg it body orelse env) fs) (pyNext it) (fun r s1 => match r with
        | none => Seg (model prog w) A R Y n s₀ (.block orelse env) ((model prog w).den (.block orelse env)) fs s1
        | some v => wpAny (model prog w) (A.over (.forLoop tg it body orelse env) fs) (letOwnedTupleGo tg it v) (fun _ s2 => wpAny (model prog w) (A.over (.forLoop tg it body orelse env) fs) (assign tg env v) (fun _ s3 =>
            Seg (model prog w) A R Y n s₀ (.forLoop tg it body orelse env) ((execs body env).wrap (fun f => match f with
              | .next | .cont => .pure (.again (.forLoop tg it body orelse env))
              | .brk => .pure (.done .next)
              | .ret v => .pure (.done (.ret v))) (noted env) id id) fs s3)
            (fun x s' => Seg (model prog w) A R Y n s₀ (.forLoop tg it body orelse env) (noted env x) fs s') s2)
          (fun x s' => Seg (model prog w) A R Y n s₀ (.forLoop tg it body orelse env) (noted env x) fs s') s1)
      (fun x s' => Seg (model prog w) A R Y n s₀ (.forLoop tg it body orelse env) (noted env x) fs s') s) :
    Seg (model prog w) A R Y n s₀ (.forLoop tg it body orelse env) ((model prog w).den (.forLoop tg it body orelse env)) fs s := by
  show Seg _ A R Y n s₀ _ ((forTurn tg it body orelse env).onRaise (fun x => do noteFrame x env; theTreesLotGoes x)) fs s
  unfold forTurn
  have hJ : (fun e => (do noteFrame e env; theTreesLotGoes e : Sem Unit).bind (fun _ => (.raise e : Sem PySem.Fin))) = noted env := by
    funext e
    first | exact Sem.bind_eq_wrap _ _ | (show (do noteFrame e env; theTreesLotGoes e : Sem Unit).bind (fun _ => .raise e) = _; rw [Sem.bind_eq_wrap])
  rw [Sem.onRaise_eq_wrap, hJ]
  refine seg_bind_wrap (wpAny_standAt ?_)
  refine seg_bind_wrap (wpAny_onRaise (wpAny_mono h (fun r s1 h1 => ?_) fun _ _ h' => wpAny_standAt h'))
  cases r with
  | none => exact seg_again rfl h1
  | some v =>
    refine seg_bind_wrap (wpAny_mono h1 (fun _ s2 h2 => ?_) fun _ _ h' => h')
    refine seg_bind_wrap (wpAny_mono h2 (fun _ s3 h3 => ?_) fun _ _ h' => h')
    rw [Sem.bind_eq_wrap', Sem.wrap_wrap]
    rw [Sem.wrap_congr (execs body env) _ _ (K' := fun f => match f with
            | .next | .cont => .pure (.again (.forLoop tg it body orelse env))
            | .brk => .pure (.done .next)
            | .ret v => .pure (.done (.ret v))) (H' := noted env) (fun f => by cases f <;> rfl) (fun e => by rfl)]
    exact h3
end
end L2

namespace L2
open PySem PySem.Spec PyProof.Rows GenW
section
variable {X : Cx} {tg : Expr}
/-- W: the invariant by the turn, a measure and what is out -/
def tGFor (wi : TI) (g : TG) (tb : TGn) : TGn := fun D ys σ H => wi σ H fun J H1 => ∃ W : Nat → Nat → List V → St → Hp → Prop, (∃ m, W 0 m ys σ H1) ∧ ∀ i m ys σ H, W i m ys σ H →
  (J.stop i H ∧ D.nx ys σ H) ∨ (J.go i H ∧ ∃ N : List V → St → Hp → Prop, (∀ ys' σ' H', N ys' σ' H' → ∃ m', m' < m ∧ W (i + 1) m' ys' σ' H') ∧ ∀ x H', J.yld i H x H' → g x σ H' fun σ2 H2 => tb { D with nx := N, ct := N, bk := D.nx } ys σ2 H2)
theorem gs_for {iter : Expr} {body : List Stmt} {pos : Pos} {wi : TI} {g : TG} {tb : TGn} (hp : PassesOwn (model X.prog X.w) X.A X.env X.xe) (hc : X.calm = true) (hi : PI X tg iter wi) (hg : PG X tg g) (hb : GSs X body tb)
    (hs : ∀ x, foldedSetIterable iter X.env x = pure x := by intro _; rfl) : GS X (.For tg iter body [] pos) (tGFor wi g tb) := by
  refine ⟨fun A S ip R n ys s₀ c fs K J gd lv s σ H D gc hn k hI ht => ?_⟩
  obtain ⟨acc, cc, r, I⟩ := hI
  refine segF_For hs ?_
  rw [gc.over]
  refine wpAny_mono (hi.run _ s σ H _ I ht) (fun v s1 h1 => wpAny_mono h1 (fun itv s2 h2 p => ?_) fun x s' hx => k.exc n s₀ x s' hx) fun x s' hx => k.exc n s₀ x s' hx
  obtain ⟨it, fp, tn, JJ, H2, e, I2, T, st2, f2, W, ⟨m0, w0⟩, turn⟩ := h2
  subst e
  -- the iterator's objects are none of the frame's, and not the consumer's list
  have hSf : ∀ b ∈ fp, S ≠ b := fun b hb => (f2 b hb).2.2.2.2.2 (S, lstObj acc cc) (List.mem_append_right _ List.mem_cons_self)
  have stat : ∀ {H' : Hp} {acc' : Array Value} {cc' : Nat}, (∀ b ∈ fp, H' b = none) → ∀ b ∈ fp, FpOk X ((S, lstObj acc' cc') :: ip) H' b := fun {H' acc' cc'} hn b hb => by
    obtain ⟨_, f1, f3, f4, f5, f6⟩ := f2 b hb
    refine ⟨hn b hb, f1, f3, f4, f5, fun q hq => ?_⟩
    rcases List.mem_append.mp hq with hq | hq
    · exact f6 q (List.mem_append_left _ hq)
    · rcases List.mem_cons.mp hq with hq | hq
      · rw [hq]; exact hSf b hb
      · exact f6 q (List.mem_append_right _ (List.mem_cons_of_mem _ hq))
  have gl := fun (c' : Code) (hw : c'.weight = 0) (hu : c'.cUnits = 0) (kk : Result → Sem PySem.Fin) => gc_loop (k := kk) (c' := c') (l := lv []) (kp := []) (p := p) gc hw hu
  have loop : ∀ (m i n : Nat) (ys : List V) (s₀ s : Shared) (σ : St) (H : Hp), n + ys.length = sizeLine → W i m ys σ H → GI X S ip ys σ H s → tn i s.heap → (∀ b ∈ fp, H b = none) →
      Seg (model X.prog X.w) A R (GY X S) n s₀ (.forLoop tg (.ref it) body [] X.env) ((model X.prog X.w).den (.forLoop tg (.ref it) body [] X.env))
        (.ret (fun r => ((match r with | .ok f => (.pure f : Sem Flow) | .error e => .raise e).onRaise (cameBack X.env)).wrap K J gd lv) none (gd false) (lv []) c p [] :: fs) s := by
    intro m
    induction m using Nat.strongRecOn with
    | ind m ih =>
      intro i n ys s₀ s3 σ3 H3 hn w3 hI st3 fr3
      have ee : ∀ (n : Nat) (s₀ : Shared) (x : Value) (s' : Shared), X.xe x s' → Seg (model X.prog X.w) A R (GY X S) n s₀ (.forLoop tg (.ref it) body [] X.env) (noted X.env x)
          (.ret (fun r => ((match r with | .ok f => (.pure f : Sem Flow) | .error e => .raise e).onRaise (cameBack X.env)).wrap K J gd lv) none (gd false) (lv []) c p [] :: fs) s' := fun n s₀ x s' hx => by
        refine seg_wrap ?_
        rw [(gl (.forLoop tg (.ref it) body [] X.env) rfl rfl _).over]
        refine wpAny_bind (wpAny_mono (hp x s' hx) (fun _ s'' hcb => wpAny_theTreesLotGoes ?_) fun y s'' hcb => ?_)
        · exact seg_leaf (.error x) (seg_cameBack gc k hcb)
        · exact seg_leaf (.error y) (seg_cameBack gc k hcb)
      refine segF_loop ?_
      rw [(gl (.forLoop tg (.ref it) body [] X.env) rfl rfl _).over]
      obtain ⟨acc3, cc3, r3, I3⟩ := hI
      rcases turn i m ys σ3 H3 w3 with ⟨stop, qn⟩ | ⟨go, N, hN, step⟩
      · refine wpAny_mono (T.done X rfl rfl rfl hc i _ s3 σ3 H3 X.xe I3 (stat fr3) st3 stop) (fun r s4 ⟨hr, I4⟩ => ?_) fun x s' hx => ee n s₀ x s' hx
        subst hr
        exact seg_leaf (.ok .next) (k.ok n ys s₀ s4 .next hn ⟨σ3, H3, ⟨acc3, cc3, r3, I4⟩, qn⟩)
      · refine wpAny_mono (T.item X rfl rfl rfl hc i _ s3 σ3 H3 X.xe I3 (stat fr3) st3 go) (fun r s4 ⟨u, hr, h4⟩ => ?_) fun x s' hx => ee n s₀ x s' hx
        subst hr
        refine wpAny_mono h4 (fun _ s5 ⟨x, H5, I5, r5, y5, st5, fr5⟩ => ?_) fun x s' hx => ee n s₀ x s' hx
        have I5' := I5.pinned (stat fr5) (T.obj _ _ st5)
        refine wpAny_mono (hg.run _ s5 σ3 H5 x u _ I5' r5 (step x H5 y5)) (fun _ s6 ⟨σ6, H6, I6, q6⟩ => ?_) fun x s' hx => ee n s₀ x s' hx
        have gl2 := gl (.forLoop tg (.ref it) body [] X.env) rfl rfl (fun r => ((match r with | .ok f => (.pure f : Sem Flow) | .error e => .raise e).onRaise (cameBack X.env)).wrap K J gd lv)
        have gl3 : GC X S (ip ++ pinsAt fp s5.heap) A (.forLoop tg (.ref it) body [] X.env) (.ret (fun r => ((match r with | .ok f => (.pure f : Sem Flow) | .error e => .raise e).onRaise (cameBack X.env)).wrap K J gd lv) none (gd false) (lv []) c p [] :: fs) id :=
          ⟨gl2.pn, (fun q hq => (List.mem_append.mp hq).elim (gl2.ip q) fun hq => Ne.symm (hSf _ (of_pinsAt hq).1)), gl2.apart, gl2.over, gl2.split, gl2.guard, gl2.gd⟩
        have back : ∀ {ys7 : List V} {σ7 : St} {H7 : Hp} {s7 : Shared}, GI X S (ip ++ pinsAt fp s5.heap) ys7 σ7 H7 s7 → GI X S ip ys7 σ7 H7 s7 ∧ tn (i + 1) s7.heap ∧ ∀ b ∈ fp, H7 b = none := fun {ys7 σ7 H7 s7} h7 => by
          obtain ⟨acc7, cc7, r7, I7⟩ := h7
          refine ⟨⟨acc7, cc7, r7, (show Inv X (((S, lstObj acc7 cc7) :: ip) ++ pinsAt fp s5.heap) σ7 H7 s7 from I7).unpinned⟩, T.keep _ _ _ st5 fun b hb o e => (I7.pin (b, o) (List.mem_append_right _ (List.mem_cons_of_mem _ (List.mem_append_right _ (mem_pinsAt hb e))))).1, fun b hb => ?_⟩
          obtain ⟨o, e, d⟩ := T.obj _ _ st5 b hb
          exact (I7.pin (b, o) (List.mem_append_right _ (List.mem_cons_of_mem _ (List.mem_append_right _ (mem_pinsAt hb e))))).2.1
        refine hb.run A S (ip ++ pinsAt fp s5.heap) R n ys s₀ _ _ _ _ id id s6 σ6 H6 { D with nx := N, ct := N, bk := D.nx } gl3 hn ⟨fun n' ys' s₀' s7 f hn' hs7 => ?_, fun n' s₀' x s' hx => ee n' s₀' x s' hx⟩ ⟨acc3, cc3, r3, I6⟩ q6
        cases f with
        | next =>
          obtain ⟨σ7, H7, I7, n7⟩ := hs7
          obtain ⟨m', hm, w7⟩ := hN ys' σ7 H7 n7
          obtain ⟨b1, b2, b3⟩ := back I7
          exact seg_again rfl (ih m' hm (i + 1) n' ys' s₀' s7 σ7 H7 hn' w7 b1 b2 b3)
        | cont =>
          obtain ⟨σ7, H7, I7, n7⟩ := hs7
          obtain ⟨m', hm, w7⟩ := hN ys' σ7 H7 n7
          obtain ⟨b1, b2, b3⟩ := back I7
          exact seg_again rfl (ih m' hm (i + 1) n' ys' s₀' s7 σ7 H7 hn' w7 b1 b2 b3)
        | brk =>
          obtain ⟨σ7, H7, I7, q7⟩ := hs7
          exact seg_leaf (.ok .next) (k.ok n' ys' s₀' s7 .next hn' ⟨σ7, H7, (back I7).1, q7⟩)
        | ret v =>
          obtain ⟨x7, σ7, H7, I7, rr, q7⟩ := hs7
          exact seg_leaf (.ok (.ret v)) (k.ok n' ys' s₀' s7 (.ret v) hn' ⟨x7, σ7, H7, (back I7).1, rr, q7⟩)
  exact loop m0 0 n ys s₀ s2 σ H2 hn w0 ⟨acc, cc, r, I2⟩ st2 fun b hb => (f2 b hb).1
end
end L2

/-! generators over data -/
namespace DL
open PySem PySem.Spec PyProof.Rows L2
structure GDEnds where
  nx : List D → DSt → Sto → Prop
  bk : List D → DSt → Sto → Prop := fun _ _ _ => False
  ct : List D → DSt → Sto → Prop := fun _ _ _ => False
abbrev TDGn := GDEnds → List D → DSt → Sto → Prop
structure ConvG (K : PySem.W.Frag) (H : Hp) (S : Sto) (D : GDEnds) (E : GEnds) : Prop where
  nx : ∀ ys ds σ' H' ρ' S', RepL K H' S' ys ds → RepSt K H' S' σ' ρ' → Wd K H' S' → Step H S H' S' → D.nx ds ρ' (vis S') → E.nx ys σ' H'
  bk : ∀ ys ds σ' H' ρ' S', RepL K H' S' ys ds → RepSt K H' S' σ' ρ' → Wd K H' S' → Step H S H' S' → D.bk ds ρ' (vis S') → E.bk ys σ' H'
  ct : ∀ ys ds σ' H' ρ' S', RepL K H' S' ys ds → RepSt K H' S' σ' ρ' → Wd K H' S' → Step H S H' S' → D.ct ds ρ' (vis S') → E.ct ys σ' H'
theorem ConvG.step {K : PySem.W.Frag} {H H1 : Hp} {S S1 : Sto} {D : GDEnds} {E : GEnds} (c : ConvG K H S D E) (s : Step H S H1 S1) : ConvG K H1 S1 D E :=
  ⟨fun _ _ _ _ _ _ l r w s' => c.nx _ _ _ _ _ _ l r w (s.trans s'), fun _ _ _ _ _ _ l r w s' => c.bk _ _ _ _ _ _ l r w (s.trans s'), fun _ _ _ _ _ _ l r w s' => c.ct _ _ _ _ _ _ l r w (s.trans s')⟩
def AbGn (K : PySem.W.Frag) (t : TGn) (d : TDGn) : Prop := ∀ (ys : List V) (ds : List D) (σ : L2.St) (H : Hp) (ρ : DSt) (S : Sto) (D : GDEnds) (E : GEnds), RepL K H S ys ds → Wd K H S → RepSt K H S σ ρ → d D ds ρ (vis S) → ConvG K H S D E → t E ys σ H
structure GDS (X : Cx) (st : Stmt) (t : TGn) (d : TDGn) : Prop where
  gs : GS X st t
  ab : AbGn X.K t d
structure GDSs (X : Cx) (st : List Stmt) (t : TGn) (d : TDGn) : Prop where
  gs : GSs X st t
  ab : AbGn X.K t d
def gPlain (d : TDS) : TDGn := fun D ds ρ S => d { nx := D.nx ds, rt := fun _ _ => False, bk := D.bk ds, ct := D.ct ds } ρ S
def gNil : TDGn := fun D ds ρ S => D.nx ds ρ S
def gThen (d u : TDGn) : TDGn := fun D ds ρ S => d { D with nx := fun ds' ρ' S' => u D ds' ρ' S' } ds ρ S
def gYield (d : TD) : TDGn := fun D ds ρ S => ds.length ≤ 100000 ∧ d ρ S fun x S1 => D.nx (ds ++ [x]) ρ S1
structure gFor (ti : TDI) (dg : TDG) (db : TDGn) (D : GDEnds) (ds : List DL.D) (ρ : DSt) (S : Sto) : Prop where
  go : ti ρ S fun L S1 => ∃ W : Nat → List DL.D → DSt → Sto → Prop, W 0 ds ρ S1 ∧
    (∀ i d ds' ρ' S', L[i]? = some d → W i ds' ρ' S' → dg d ρ' S' fun ρ2 S2 => db { D with nx := W (i + 1), ct := W (i + 1), bk := D.nx } ds' ρ2 S2) ∧ ∀ ds' ρ' S', W L.length ds' ρ' S' → D.nx ds' ρ' S'
section
variable {X : Cx} {st : Stmt} {rest : List Stmt}
theorem gd_plain {ts : TS} {d : TDS} (h : DS X st ts d) : GDS X st (tPlain ts) (gPlain d) :=
  ⟨gs_ps h.ps, fun ys ds σ H ρ S D E l w rs q c => h.ab σ H ρ S _ (E.at ys) w rs q
    ⟨fun σ' H' ρ' S' r' w' s' q' => c.nx _ _ _ _ _ _ (l.mono s') r' w' s' q', fun σ' H' ρ' S' r' w' s' q' => c.bk _ _ _ _ _ _ (l.mono s') r' w' s' q', fun σ' H' ρ' S' r' w' s' q' => c.ct _ _ _ _ _ _ (l.mono s') r' w' s' q', fun _ _ _ _ _ _ _ q' => q'.elim⟩⟩
theorem gd_nil : GDSs X [] tG0 gNil := ⟨gss_nil, fun ys ds σ H ρ S D E l w rs q c => c.nx _ _ _ _ _ _ l rs w Step.refl q⟩
theorem gd_cons {t u : TGn} {d e : TDGn} (a : GDS X st t d) (b : GDSs X rest u e) : GDSs X (st :: rest) (tGThen t u) (gThen d e) :=
  ⟨gss_cons a.gs b.gs, fun ys ds σ H ρ S D E l w rs q c => a.ab ys ds σ H ρ S _ _ l w rs q
    ⟨fun ys' ds' σ' H' ρ' S' l' r' w' s' q' => b.ab ys' ds' σ' H' ρ' S' _ _ l' w' r' q' (c.step s'), fun _ _ _ _ _ _ l' r' w' s' q' => c.bk _ _ _ _ _ _ l' r' w' s' q', fun _ _ _ _ _ _ l' r' w' s' q' => c.ct _ _ _ _ _ _ l' r' w' s' q'⟩⟩
theorem gd_yield {e : Expr} {yp pos : Pos} {te : TE} {d : TD} (he : DE X e te d) (hco : X.env.scope.isCoroutine = false := by rfl) (hi : interactive X.env = false := by rfl) : GDS X (.Expr (.Yield (some e) yp) pos) (tGYield te) (gYield d) :=
  ⟨gs_yield he.pe hco hi, fun ys ds σ H ρ S D E l w rs q c => by
    obtain ⟨hl, q⟩ := q
    refine ⟨by rw [l.length, sizeLine_eq]; omega, he.ab σ H ρ S _ _ w rs q fun v H' x S' r' w' s' q' => ?_⟩
    exact c.nx _ _ _ _ _ _ ((l.mono s').append (.cons r' .nil)) (rs.mono s') w' s' q'⟩
theorem gd_for {tg iter : Expr} {body : List Stmt} {wi : TI} {ti : TDI} {g : TG} {dg : TDG} {is : List Nat} {tb : TGn} {db : TDGn} {pos : Pos} (hp : PassesOwn (model X.prog X.w) X.A X.env X.xe) (hc : X.calm = true) (hi : DI X tg iter wi ti) (hg : DG X tg g dg is) (hb : GDSs X body tb db)
    (hs : ∀ x, foldedSetIterable iter X.env x = pure x := by intro _; rfl) : GDS X (.For tg iter body [] pos) (tGFor wi g tb) (gFor ti dg db) :=
  ⟨gs_for hp hc hi.pi hg.pg hb.gs hs, fun ys ds σ H ρ S D E l w rs q c => hi.ab σ H ρ S _ _ w rs q.go fun J H1 S1 L w1 s1 jr q1 => by
    obtain ⟨W, w0, hstep, hend⟩ := q1
    refine ⟨fun i m ys' σ' H' => i ≤ L.length ∧ m = L.length - i ∧ ∃ ds' ρ' S', RepL X.K H' S' ys' ds' ∧ RepSt X.K H' S' σ' ρ' ∧ Wd X.K H' S' ∧ Step H1 S1 H' S' ∧ W i ds' ρ' (vis S'), ⟨_, Nat.zero_le _, rfl, ds, ρ, S1, l.mono s1, rs.mono s1, w1, Step.refl, w0⟩, ?_⟩
    rintro i m ys' σ' H' ⟨hil, rfl, ds', ρ', S', l', rs', w', s', hw⟩
    obtain ⟨hgo, hstop⟩ := jr H' S' w' s'.keep
    by_cases hlt : i < L.length
    · have hd : L[i]? = some L[i] := List.getElem?_eq_getElem hlt
      obtain ⟨go, hy⟩ := hgo i _ hd
      refine .inr ⟨go, fun ys2 σ2 H2 => ∃ ds2 ρ2 S2, RepL X.K H2 S2 ys2 ds2 ∧ RepSt X.K H2 S2 σ2 ρ2 ∧ Wd X.K H2 S2 ∧ Step H1 S1 H2 S2 ∧ W (i + 1) ds2 ρ2 (vis S2), fun ys2 σ2 H2 hN => ⟨L.length - (i + 1), by omega, hlt, rfl, hN⟩, fun x H2 y => ?_⟩
      obtain ⟨r2, w2, s2⟩ := hy x H2 y
      refine hg.ab x _ σ' H2 ρ' S' _ _ r2 w2 (rs'.mono s2) (hstep i _ ds' ρ' (vis S') hd hw) fun σ3 H3 ρ3 S3 rs3 w3 s3 _ q3 => ?_
      have st : Step H1 S1 H3 S3 := (s'.trans s2).trans s3
      exact hb.ab ys' ds' σ3 H3 ρ3 S3 _ _ ((l'.mono s2).mono s3) w3 rs3 q3 ⟨fun ys4 ds4 σ4 H4 ρ4 S4 l4 rs4 w4 s4 q4 => ⟨ds4, ρ4, S4, l4, rs4, w4, st.trans s4, q4⟩, fun ys4 ds4 σ4 H4 ρ4 S4 l4 rs4 w4 s4 q4 => c.nx _ _ _ _ _ _ l4 rs4 w4 (s1.trans (st.trans s4)) q4,
        fun ys4 ds4 σ4 H4 ρ4 S4 l4 rs4 w4 s4 q4 => ⟨ds4, ρ4, S4, l4, rs4, w4, st.trans s4, q4⟩⟩
    · have e : i = L.length := by omega
      subst e
      exact .inl ⟨hstop, c.nx _ _ _ _ _ _ l' rs' w' (s1.trans s') (hend ds' ρ' (vis S') hw)⟩⟩
end
/-- a generator def's promise: what is handed out -/
abbrev DSpG := List D → Sto → (List D → Sto → Prop) → Prop
def toSpG (K : PySem.W.Frag) (sp : DSpG) : SpG := fun vs H cont _ => ∃ ds S Qd, RepL K H S vs ds ∧ Wd K H S ∧ sp ds (vis S) Qd ∧ ∀ out H' od S', RepL K H' S' out od → Wd K H' S' → Step H S H' S' → Qd od (vis S') → cont out H'
structure FnG (P : Program) (w : World) (K : PySem.W.Frag) (mg : Str → Option Value) (base : Heap) (k : Nat) (x : Str) (sp : DSpG) : Prop where
  ex : ∃ f fd ps, GFn P w K mg base k f fd ps (toSpG K sp) ∧ mg x = some (.ref f) ∧ PySem.W.keepIn K (.ref f) = true ∧ Binds K fd ps []
theorem okG {P : Program} {w : World} {K : PySem.W.Frag} {mg : Str → Option Value} {base : Heap} {x : Str} {st : Stmt} {N ps : List Str} {k : Nat} {sp : DSpG} (F : FunD K mg x st ps) (Sc : GScope N ps (defScope st)) (len : ∀ ds S Q, sp ds S Q → ds.length = ps.length)
    (hbody : ∀ (f : Addr) (cdv : Value) (A : Around) (outer : List Env) (s : Shared) (H : Hp) (E : XK) (pn : List (Addr × Obj)), Room k (A.deeper (envOfC x (defScope st) s.heap.objs.size f cdv)) →
      ∃ ts td, GDSs (gcxOf P w K mg base N x (defScope st) f cdv A outer s H E pn) (defBody st) ts td ∧ ∀ ds S Q, sp ds S Q → td { nx := fun out _ S' => Q out S' } [] (dstart N ds) S) : FnG P w K mg base (k + 1) x sp := by
  obtain ⟨f, fd, F, hm, hb⟩ := F.ex
  obtain ⟨oc, od, kV, doc, pm, an, cdv, ct, osl, rfl, lk, hcd⟩ := F.ex
  refine ⟨f, _, ps, gfn_of lk hcd Sc (fun vs H Q E h => ?_) (fun A outer s H vs Q E pn hr h => ?_), hm, F.kp, hb⟩
  · obtain ⟨ds, S, Qd, r, _, h, _⟩ := h
    rw [r.length]; exact len _ _ _ h
  · obtain ⟨ds, S, Qd, r, wd, h, kq⟩ := h
    obtain ⟨ts, td, hd, hq⟩ := hbody f cdv A outer s H E pn hr
    exact ⟨ts, hd.gs, hd.ab [] [] _ _ _ _ _ _ .nil wd (rep_start r (by rw [r.length, len _ _ _ h, ← Sc.pre, List.length_take]; exact Nat.min_le_right _ _)) (hq ds (vis S) Qd h)
      ⟨fun ys ds' σ' H' ρ' S' l' _ w' s' q => kq _ _ _ _ l' w' s' q, fun _ _ _ _ _ _ _ _ _ _ q => q.elim, fun _ _ _ _ _ _ _ _ _ _ q => q.elim⟩⟩
def dListG (sp : DSpG) (t : TDA) : TD := fun ρ S Q => t ρ S fun ds S1 => sp ds S1 fun out S2 => Q (.lst out) S2
theorem nostop0 {K : PySem.W.Frag} : NoStop K E0 := fun cls d H h => h.elim
theorem k_listG {X : Cx} {K : PySem.W.Frag} {k : Nat} {x : Str} {sp : DSpG} {p p2 pos pos2 : Pos} {e : Expr} {es : List Expr} {tl : TA} {dl : TDA} (F : FnG X.prog X.w X.K X.mg X.base k x sp) (hr : Room (k + 3) X.A) (hg : Gl X x) (hg2 : Gl X "list") (hm2 : X.mg "list" = none) (ha : DA X (e :: es) tl dl) (hK : X.K = K := by rfl)
    (hdb : (x == ("__debug__" : Str)) = false := by decide) (he : starEach (e :: es) X.env = (false, eval e X.env) :: starEach es X.env := by rfl) (hpl : (backTo pos2 (starEach es X.env)).any (·.1) = false := by rfl)
    (he2 : starEach [.Call (.Name x p2) (e :: es) [] pos2] X.env = (false, eval (.Call (.Name x p2) (e :: es) [] pos2) X.env) :: starEach [] X.env := by rfl) :
    DE X (.Call (.Name "list" p) [.Call (.Name x p2) (e :: es) [] pos2] [] pos) (tListG (tCallG (toSpG K sp) [] E0 tl)) (dListG sp dl) := by
  subst hK
  obtain ⟨f, fd, ps, F, hm, hk, hb⟩ := F.ex
  refine ⟨pe_listG (pgen_call F (Room.mono hr (by omega)) hg hm hk hb .nil ha.pa hdb he hpl) (fun _ _ _ _ _ _ _ h => by obtain ⟨_, _, _, _, _, _, _, _, _, _, _, _, z⟩ := h; exact z.elim) nostop0 hr hg2 hm2 bb_list (by decide) (by decide) he2, fun σ H ρ S Q Qv w rs q k => ha.ab σ H ρ S _ _ w rs q fun vs H1 ds S1 r1 w1 s1 q1 => ?_⟩
  refine ⟨ds, S1, _, by rw [List.append_nil]; exact r1, w1, q1, fun out H' od S' r' w' s' q' p5 hp5 => ?_⟩
  have st := Step.new (o := .lst out) w' hp5
  exact k _ _ _ _ (.lst upd_same (w'.free hp5) (r'.mono st)) (w'.new hp5) ((s1.trans s').trans st) q'
end DL

/-! ### text * int -/
namespace DL
open PySem PySem.Spec PyProof.Rows L2
def repS (x : Str) (k : Nat) : Str := ⟨(List.replicate k x.cps).foldl (· ++ ·) #[]⟩
theorem fold_size (c : Array Nat) : ∀ (k : Nat) (acc : Array Nat), ((List.replicate k c).foldl (· ++ ·) acc).toList = acc.toList ++ (List.replicate k c.toList).flatten
  | 0, acc => by simp
  | k + 1, acc => by
    rw [List.replicate_succ, List.foldl_cons, fold_size c k (acc ++ c), Array.toList_append, List.replicate_succ, List.flatten_cons, List.append_assoc]
theorem repS_list (x : Str) (k : Nat) : (repS x k).cps.toList = (List.replicate k x.cps.toList).flatten := by
  show ((List.replicate k x.cps).foldl (· ++ ·) #[]).toList = _
  rw [fold_size]; rfl
theorem repS_len (x : Str) (k : Nat) : (repS x k).length = k * x.length := by
  show (repS x k).cps.size = _
  rw [← Array.length_toList, repS_list, List.length_flatten, List.map_replicate, Array.length_toList]
  show _ = k * x.cps.size
  induction k with
  | zero => simp
  | succ k ih => rw [List.replicate_succ, List.sum_cons, ih, Nat.succ_mul, Nat.add_comm]
def rRepS : R2 := fun x y H Q => ∃ (a : Str) (k : Nat), x = .str a ∧ y = .int k ∧ (2 ≤ k ∧ k ≤ 1000 ∧ 1 ≤ a.length ∧ a.length ≤ 1000) ∧ Q (.str (repS a k)) H
theorem op_repS {X : Cx} : OpR X (binaryOp .Mult) rRepS := by
  intro pins s σ H x y v u Q I rx ry h
  obtain ⟨a, k, rfl, rfl, ⟨hk, hk2, ha, ha2⟩, q⟩ := h
  obtain ⟨t, rfl⟩ := rx
  obtain ⟨t', rfl⟩ := ry
  have hmul : a.length * k ≤ 1000000 := Nat.mul_le_mul ha2 hk2
  refine PySem.P.mul_str ?_ (fun _ _ => ?_) (fun _ _ => ?_) ?_
  · rw [decide_eq_false (by omega), decide_eq_false (by omega)]; rfl
  · have h1 : (1000 : Int) ≤ (2 ^ 63 - 1) / (k : Int) := (Int.le_ediv_iff_mul_le (by omega)).mpr (by omega)
    omega
  · rw [Int.toNat_natCast]
    unfold Builtin.Str.tooLong
    exact decide_eq_false (by rw [sizeLine_eq]; omega)
  · rw [if_neg (by omega), if_neg (by simp; omega), Int.toNat_natCast]
    refine ⟨?_, ⟨.str (repS a k), H, I.tok _, ⟨_, rfl⟩, q⟩⟩
    show (repS a k).length ≤ sizeLine
    rw [repS_len, sizeLine_eq, Nat.mul_comm]
    omega
def repSD : RD2 := fun x y S Q => match x, y with
  | .str a, .int k => ∃ n : Nat, k = n ∧ (2 ≤ n ∧ n ≤ 1000 ∧ 1 ≤ a.length ∧ a.length ≤ 1000) ∧ Q (.str (repS a n)) S
  | _, _ => False
theorem do_mulS {X : Cx} : DOp X (binaryOp .Mult) rRepS repSD :=
  ⟨op_repS, fun H S x y dx dy Q Qv w rx ry q k => by
    cases dx <;> cases dy <;> first | exact False.elim q | skip
    rename_i a i
    obtain ⟨n, rfl, h, q⟩ := q
    cases rx.str; cases ry.int
    exact ⟨a, n, rfl, rfl, h, k _ _ _ _ (.str _) w Step.refl q⟩⟩
end DL

/-! ### list(text), xs.pop(k), xs.insert(k, v) -/
namespace DL
open PySem PySem.Spec PyProof.Rows L2
section
variable {X : Cx}
def rListS : List V → Hp → VK → Prop := fun xs H Q => ∃ x : Str, xs = [.str x] ∧ x.cps.size ≤ 100000 ∧ ∀ l, H l = none → Q (.ref l) (upd H l (.lst (x.cps.toList.map fun c => V.str ⟨#[c]⟩)))
theorem signs_vals {x : Str} : ∀ {n : Nat} {acc : Array Value}, acc.size = n → n = x.cps.size → (∀ j v, acc[j]? = some v → SignAt x j v) → Vals (x.cps.toList.map fun c => V.str ⟨#[c]⟩) acc.toList := fun {n acc} h1 h2 h3 => by
  have key : ∀ (l : List Nat) (us : List Value), us.length = l.length → (∀ (j : Nat) (v : Value), us[j]? = some v → ∃ (c : Nat) (u : Tok), l[j]? = some c ∧ v = Value.str ⟨#[c]⟩ u) → Vals (l.map fun c => V.str ⟨#[c]⟩) us := by
    intro l
    induction l with
    | nil => intro us hl _; rw [List.length_eq_zero_iff.mp hl]; exact .nil
    | cons c l ih =>
      intro us hl hv
      cases us with
      | nil => cases hl
      | cons u us =>
        obtain ⟨c', t, hc, hu⟩ := hv 0 u rfl
        cases hc
        exact .cons ⟨t, hu⟩ (ih us (by simpa using hl) fun j v hj => hv (j + 1) v hj)
  refine key _ _ (by rw [Array.length_toList, Array.length_toList]; omega) fun j v hj => ?_
  obtain ⟨c, u, hc, hv⟩ := h3 j v (by rw [← Array.getElem?_toList]; exact hj)
  exact ⟨c, u, by rw [Array.getElem?_toList]; exact hc, hv⟩
theorem cr_listS (hc : X.calm = true) : CallR X (.type "list") rListS := by
  intro pins s σ H xs us Q I r h
  obtain ⟨x, rfl, hl, q⟩ := h
  cases r with
  | cons r t =>
    cases t
    obtain ⟨tk, rfl⟩ := r
    have hn : H s.heap.objs.size = none := I.hok.fresh (Nat.le_refl _)
    refine call_list_str (I.ok.hd hc) x tk (fun h' tk' acc c k ho hi => ?_) (by rw [sizeLine_eq]; omega)
    have hv := signs_vals hi.1 rfl hi.2
    exact ⟨.ref s.heap.objs.size, upd H s.heap.objs.size (.lst (x.cps.toList.map fun c => V.str ⟨#[c]⟩)), I.laid (t' := tk') k (Nat.le_refl _) ⟨by rw [List.length_map, Array.length_toList, sizeLine_eq]; omega, acc.toList, c, hv, ho⟩, rfl, q _ hn⟩
def listSD : RDC := fun xs S Q => match xs with
  | [.str x] => x.cps.size ≤ 100000 ∧ Q (.lst (x.cps.toList.map fun c => D.str ⟨#[c]⟩)) S
  | _ => False
theorem repL_signs {K : PySem.W.Frag} {H : Hp} {S : Sto} : ∀ l : List Nat, RepL K H S (l.map fun c => V.str ⟨#[c]⟩) (l.map fun c => D.str ⟨#[c]⟩)
  | [] => .nil
  | c :: l => .cons (.str _) (repL_signs l)
theorem dc_listS (hc : X.calm = true) : DC X (.type "list") rListS listSD :=
  ⟨cr_listS hc, fun H S vs ds Q Qv w rv q k => by
    unfold listSD at q
    split at q
    · cases rv with
      | cons r t =>
        cases t
        cases r.str
        exact ⟨_, rfl, q.1, fun l hl => k _ _ _ _ (.lst upd_same (w.free hl) (repL_signs _)) (w.new hl) (Step.new w hl) q.2⟩
    · exact False.elim q⟩
end
section
variable {X : Cx} {K : PySem.W.Frag} {o e e2 : Expr} {to te te2 : TE} {d1 d2 d3 : TD} {apos pos : Pos}
/-- o.pop(k) -/
def dPopAt (t u : TD) : TD := fun ρ S Q => t ρ S fun o S1 => match o with
  | .ref p => IsLst (S1 p) fun _ => u ρ S1 fun i S2 => match i with
    | .int i => IsLst (S2 p) fun ds => ∃ (k : Nat) (d : D), i = k ∧ k < 100000 ∧ ds[k]? = some d ∧ Q d (updS S2 p (.lst (ds.eraseIdx k)))
    | _ => False
  | _ => False
theorem k_popAt (ho : DE X o to d1) (he : DE X e te d2) (hK : X.K = K := by rfl) (b : Bm1 X o "pop" apos e pos := by exact ⟨rfl, rfl, rfl, rfl, rfl⟩) :
    DE X (.Call (.Attribute o "pop" apos) [e] [] pos) (tBM K "list" rPopAt to (tCons te tNil)) (dPopAt d1 d2) := by
  subst hK
  refine ⟨b.pe PySem.F.plainAttrs_list PySem.F.slot_list_pop PySem.F.type_list_pop mt_popAt ho.pe he.pe, fun σ H ρ S Q Qv w rs q k => ho.ab σ H ρ S _ _ w rs q fun v H1 x S1 r w1 s1 q1 => ?_⟩
  split at q1
  case h_2 => exact q1.elim
  rename_i p
  obtain ⟨ds1, hp, q1⟩ := q1.get
  cases r
  obtain ⟨vs1, h1, _⟩ := owned_lst w1 hp
  refine ⟨.inl ⟨rfl, _, SqL.of h1⟩, he.ab σ H1 ρ S1 _ _ w1 (rs.mono s1) q1 fun y H2 d S2 r2 w2 s2 q2 => ?_⟩
  split at q2
  case h_2 => exact q2.elim
  cases r2
  obtain ⟨ds, hp2, j, d, rfl, hj0, hj, q2⟩ := q2.get
  obtain ⟨vs, h2, rl⟩ := owned_lst w2 hp2
  have ow := (vis_of hp2)
  obtain ⟨u, hu, ru⟩ := rl.get hj
  have hjl := (List.getElem?_eq_some_iff.mp hu).1
  refine ⟨p, vs, j, j, u, rfl, rfl, h2, by omega, ?_, ?_, hu, ?_⟩
  · omega
  · unfold seqIndex?
    simp only [if_neg (show ¬ (j : Int) < 0 by omega)]
    rw [if_pos (by rw [Bool.and_eq_true, decide_eq_true_eq, decide_eq_true_eq]; omega), Int.toNat_natCast]
  · have st : Step H2 S2 (upd H2 p (.lst (vs.eraseIdx j))) (updS S2 p (.lst (ds.eraseIdx j))) := Step.chg ow.1 ow.2
    refine k _ _ d _ (ru.mono st) (w2.chg (m := .lst (ds.eraseIdx j)) ow.1 ow.2 ⟨_, upd_same, (rl.eraseIdx j).mono st⟩) ((s1.trans s2).trans st) ?_
    rw [vis_upd (by intro z; cases z)]
    exact q2
/-- o.insert(k, v) -/
def rInsert : V → List V → Hp → VK → Prop := fun x vs H Q => ∃ (l : Addr) (xs : List V) (i : Int) (y : V), x = .ref l ∧ vs = [.int i, y] ∧ H l = some (.lst xs) ∧ xs.length < sizeLine ∧ 0 ≤ i ∧ i < 2 ^ 63 ∧
    Q .non (upd H l (.lst (xs.take i.toNat ++ [y] ++ xs.drop i.toNat)))
def dInsert (t u v : TD) : TD := fun ρ S Q => t ρ S fun o S1 => match o with
  | .ref p => IsLst (S1 p) fun _ => u ρ S1 fun i S2 => v ρ S2 fun y S3 => match i with
    | .int i => IsLst (S3 p) fun ds => ∃ k : Nat, i = k ∧ k < 100000 ∧ ds.length < 100000 ∧ Q .non (updS S3 p (.lst (ds.take k ++ [y] ++ ds.drop k)))
    | _ => False
  | _ => False
structure Bm2 (X : Cx) (o : Expr) (name : Str) (apos : Pos) (e e2 : Expr) (cpos : Pos) : Prop where
  base : attributeBase o name X.env (eval o X.env) = eval o X.env
  few : ((backTo cpos (starEach (e :: [e2]) X.env)).all (fun x => !x.1) && (backToKw cpos (keywordEach [] X.env)).all (fun x => x.1.isSome)
      && decide ((e :: [e2]).length + ([] : List Keyword).length + (if ([] : List Keyword).isEmpty then 0 else 1) < 30)) = true
  line : (apos.endLine == cpos.line) = true
  hs : starEach (e :: [e2]) X.env = (false, eval e X.env) :: starEach [e2] X.env
  hs2 : starEach (e2 :: []) X.env = (false, eval e2 X.env) :: starEach [] X.env
  pl : (backTo cpos (starEach [e2] X.env)).any (·.1) = false
theorem k_insert (ho : DE X o to d1) (he : DE X e te d2) (he2 : DE X e2 te2 d3) (hK : X.K = K := by rfl) (b : Bm2 X o "insert" apos e e2 pos := by exact ⟨rfl, rfl, rfl, rfl, rfl, rfl⟩) :
    DE X (.Call (.Attribute o "insert" apos) [e, e2] [] pos) (tBM K "list" rInsert to (tCons te (tCons te2 tNil))) (dInsert d1 d2 d3) := by
  subst hK
  refine ⟨pe_bm PySem.F.plainAttrs_list PySem.F.slot_list_insert PySem.F.type_list_insert mt_insert ho.pe (pa_cons he.pe (pa_cons he2.pe pa_nil b.hs2) b.hs) b.base b.few b.line b.hs b.pl, fun σ H ρ S Q Qv w rs q k => ho.ab σ H ρ S _ _ w rs q fun v H1 x S1 r w1 s1 q1 => ?_⟩
  split at q1
  case h_2 => exact q1.elim
  rename_i p
  obtain ⟨ds1, hp, q1⟩ := q1.get
  cases r
  obtain ⟨vs1, h1, _⟩ := owned_lst w1 hp
  refine ⟨.inl ⟨rfl, _, SqL.of h1⟩, he.ab σ H1 ρ S1 _ _ w1 (rs.mono s1) q1 fun iv H2 i S2 r2 w2 s2 q2 => he2.ab σ H2 ρ S2 _ _ w2 ((rs.mono s1).mono s2) q2 fun y H3 d S3 r3 w3 s3 q3 => ?_⟩
  split at q3
  case h_2 => exact q3.elim
  cases r2
  obtain ⟨ds, hp3, j, rfl, hj, hl, q3⟩ := q3.get
  obtain ⟨vs, h3, rl⟩ := owned_lst w3 hp3
  have ow := (vis_of hp3)
  refine ⟨p, vs, j, y, rfl, rfl, h3, by rw [rl.length, sizeLine_eq]; omega, by omega, by omega, ?_⟩
  rw [Int.toNat_natCast]
  have st : Step H3 S3 (upd H3 p (.lst (vs.take j ++ [y] ++ vs.drop j))) (updS S3 p (.lst (ds.take j ++ [d] ++ ds.drop j))) := Step.chg ow.1 ow.2
  refine k _ _ .non _ .non (w3.chg (m := .lst (ds.take j ++ [d] ++ ds.drop j)) ow.1 ow.2 ⟨_, upd_same, (((rl.take j).append (.cons r3 .nil)).append (rl.drop j)).mono st⟩) (((s1.trans s2).trans s3).trans st) ?_
  rw [vis_upd (by intro z; cases z)]
  exact q3
end
section
variable {X : Cx} {K : PySem.W.Frag}
/-- list(xs), to be changed -/
def listOD : RDC := fun xs S Q => match xs with
  | [.lst ds] => ∀ p, S p = none → Q (.ref p) (updS S p (.lst ds))
  | [.tup ds] => ∀ p, S p = none → Q (.ref p) (updS S p (.lst ds))
  | _ => False
theorem k_listO (hK : X.K = K := by rfl) : DC X (.type "list") (fun xs H Q => ∃ p ys, xs = [.ref p] ∧ (SqL K H p ys ∨ SqT K H p ys) ∧ ∀ l, H l = none → Q (.ref l) (upd H l (.lst ys))) listOD := by
  subst hK
  exact ⟨call_list_of, fun H S vs ds Q Qv w rv q k => by
    have fin : ∀ {us es}, RepL X.K H S us es → (∀ p, vis S p = none → Q (.ref p) (updS (vis S) p (.lst es))) → ∀ l, H l = none → Qv (.ref l) (upd H l (.lst us)) := fun {us es} r z l hl =>
      k _ _ _ _ (.ref l) (w.newS (m := .lst es) hl ⟨us, upd_same, r.mono (Step.newS w hl)⟩) (Step.newS w hl) (by rw [vis_upd (by intro z; cases z)]; exact z l (vis_none (w.free hl)))
    unfold listOD at q
    split at q
    · cases rv with
      | cons r t =>
        cases t
        obtain ⟨a, us, rfl, h1, h2⟩ := r.lst
        exact ⟨a, us, rfl, .inl (SqL.of h1), fin h2 q⟩
    · cases rv with
      | cons r t =>
        cases t
        obtain ⟨a, us, rfl, h1, h2⟩ := r.tup
        exact ⟨a, us, rfl, .inr h1, fin h2 q⟩
    · exact False.elim q⟩
end
theorem de_gint {X : Cx} {x : Str} {n : Int} {t : Tok} {pos : Pos} (h : X.mg x = some (.int n t)) (hg : Gl X x := by rfl) (hd : (x == ("__debug__" : Str)) = false := by decide) : DE X (.Name x pos) (tC (.int n)) (dC (.int n)) :=
  ⟨pe_glob hg h ⟨t, rfl⟩ hd, ab_c fun _ _ => .int n⟩
end DL

/-! ### set(list of tuples of ints), any number of items, fewer than 63 distinct ones -/
namespace DL
open PySem PySem.Spec PyProof.Rows L2
section
variable {P : Program} {w : World} {A : Around} {E : Value → Shared → Prop} {s : Shared}
/-- no more than 62 distinct ones can stand together -/
def FewD (ks : List (Addr × List Int)) : Prop := ∀ L : List (Addr × List Int), (L.map (·.2)).Nodup → (∀ p ∈ L, p ∈ ks) → L.length < 63
theorem upd_tupsD {I : Addr} {fp wr : List Addr} {G : Array GenState → Array GenState → Prop} {n : Nat} {Pv : Nat → Value → Prop} {St : Nat → Shared → Prop} {R : Result → Shared → Prop}
    (W : WalksS P w A.in1 I fp wr G n Pv St) (S : Addr) (hSf : S ∉ fp) (ks : List (Addr × List Int)) (hn : n = ks.length) (hfew : FewD ks) (hval : ∀ i v, Pv i v → ∃ p, ks[i]? = some p ∧ v = .ref p.1)
    (h0 : Heap) (hk : ∀ p ∈ ks, IsT P w h0 p.2 p.1) (hS0 : h0.get? S = none) (hw0 : ∀ b ∈ wr, h0.get? b = none) (hu : A.in1.units < cLine) :
    ∀ (k i : Nat) (s : Shared), n - i = k → i ≤ n → St i s → (∀ b o, h0.get? b = some o → s.heap.get? b = some o) → (∃ L es ep t, SetTR P w s.heap S L es ep t ∧ Got ks i L) →
      (∀ s' L es ep t, Moved (S :: wr) G s s' → SetTR P w s'.heap S L es ep t → Got ks n L → (∀ b o, h0.get? b = some o → s'.heap.get? b = some o) → R (.ok (.ret .none)) s') →
      codeAny (model P w) A (.builtin "set.update.loop" ⟨[.ref S, .ref I], []⟩) R s := by
  have hSw : S ∉ wr := fun h => hSf (W.sub _ h)
  have hsub : ∀ b ∈ wr, b ∈ S :: wr := fun b hb => List.mem_cons_of_mem _ hb
  have keepM : ∀ {s s' : Shared}, Moved wr G s s' → (∀ b o, h0.get? b = some o → s.heap.get? b = some o) → ∀ b o, h0.get? b = some o → s'.heap.get? b = some o := fun hm hkp b o e =>
    hm.heap b o (fun hb => by rw [hw0 b hb] at e; cases e) (hkp b o e)
  intro k
  induction k with
  | zero =>
    intro i s hk' hi hst hkp ⟨L, es, ep, t, hS, g⟩ hR
    obtain rfl : i = n := by omega
    refine codeAny_builtin F.entry_set_update_loop ?_
    rw [Around.under_plainId F.plain_set_update_loop _]
    show wpAny _ A.in1 (pyNext (.ref I) >>= _) _ _ s
    refine wpAny_bind (W.done s _ _ hst fun s' hm => ?_)
    show wpAny _ A.in1 (ret Value.none) _ _ s'
    have hkp' := keepM hm hkp
    exact wpAny_pure (hR s' L es ep t (hm.mono hsub) (hS.keep (fun o e => hm.heap S o hSw e) fun p hp => isT_keep (hk p (List.mem_of_mem_take (g.sub p hp))) hkp') g hkp')
  | succ k ih =>
    intro i s hk' hi hst hkp ⟨L, es, ep, t, hS, g⟩ hR
    have hlt : i < n := by omega
    refine codeAny_builtin F.entry_set_update_loop ?_
    rw [Around.under_plainId F.plain_set_update_loop _]
    show wpAny _ A.in1 (pyNext (.ref I) >>= _) _ _ s
    refine wpAny_bind (W.item i s _ _ hlt hst fun v s' hP hst' hm => ?_)
    obtain ⟨p, hp, rfl⟩ := hval i v hP
    have hkp' := keepM hm hkp
    have sub : ∀ p ∈ L, p ∈ ks := fun p hp => List.mem_of_mem_take (g.sub p hp)
    have hS' : SetTR P w s'.heap S L es ep t := hS.keep (fun o e => hm.heap S o hSw e) fun q hq => isT_keep (hk q (sub q hq)) hkp'
    have hx : IsT P w s'.heap p.2 p.1 := isT_keep (hk p (List.mem_of_getElem? hp)) hkp'
    have hL := hfew L hS.nd sub
    show wpAny _ A.in1 (holding [Value.ref p.1] (setAdd S (.ref p.1)) >>= _) _ _ s'
    refine wpAny_bind (wpAny_holding ?_)
    unfold setAdd
    refine wpAny_holding ?_
    refine wpAny_bind (wpAny_pyHash_tuple hu hx ?_)
    refine add_at (s := { s' with toks := s'.toks + (p.2.length + 1) }) hS' hx hu (by omega) fun b h' L' es' ep' t' hsb hS2 c1 c2 => ?_
    have g' : Got ks (i + 1) L' := by
      rcases Classical.em (p.2 ∈ L.map (·.2)) with c | c
      · rw [c1 c]; exact g.same hp c
      · exact g.more hp (c2 c)
    have hkp2 : ∀ b o, h0.get? b = some o → h'.get? b = some o := fun b o e => (hsb.2 b (fun z => by rw [z, hS0] at e; cases e)).trans (hkp' b o e)
    refine wpAny_pure ⟨plainId_quiet F.plain_set_update_loop _, ih (i + 1) _ (by omega) hlt (W.frame _ s' _ _ hst' (Nat.le_add_right _ _) fun b hb o e => ?_) hkp2 ⟨L', es', ep', t', hS2, g'⟩ fun s'' L2 es2 ep2 t2 hm'' hS'' g'' hkp'' => ?_⟩
    · rw [hsb.2 b (fun h : b = S => hSf (by rw [← h]; exact hb))]; exact e
    · refine hR s'' L2 es2 ep2 t2 (Moved.trans W.gtrans ((hm.mono hsub).then_heap (Nat.le_add_right _ _) fun b o hb e => ?_) hm'') hS'' g'' hkp''
      rw [hsb.2 b (fun h : b = S => hb (by rw [h]; exact List.mem_cons_self))]; exact e
abbrev afterSetT (P : Program) (w : World) (ks : List (Addr × List Int)) (s : Shared) (s2 : Shared) : Prop := ∃ h' tk L es ep t, s2 = { s with heap := h', toks := tk } ∧ SetTR P w h' s.heap.objs.size L es ep t ∧ Got ks ks.length L ∧ ∀ b o, s.heap.get? b = some o → h'.get? b = some o
theorem call_set_tupsD {l : Addr} {items : Array Value} (ks : List (Addr × List Int)) {Q : Value → Shared → Prop} (hh : A.handled = none) (hl : s.heap.IsList l items) (hit : items.toList = ks.map fun p => Value.ref p.1)
    (hk : ∀ p ∈ ks, IsT P w s.heap p.2 p.1) (hfew : FewD ks) (hu : A.units + 3 < cLine)
    (h : ∀ (h' : Heap) (tk : Nat) L es ep t, SetTR P w h' s.heap.objs.size L es ep t → Got ks ks.length L → (∀ b o, s.heap.get? b = some o → h'.get? b = some o) → Q (.ref s.heap.objs.size) { s with heap := h', toks := tk }) :
    wpAny (model P w) A (call (.type "set") [.ref l]) Q E s := by
  have hisz : items.size = ks.length := by
    have q := congrArg List.length hit
    rw [Array.length_toList, List.length_map] at q
    exact q
  obtain ⟨c, tl, hmro⟩ := F.called_set.mro
  have hmade := F.called_set.made
  have hsub := F.called_set.sub
  refine wpAny_call (codeAny_of_tree ?_)
  show wpAny _ _ (callAny (.type "set") _) _ _ _
  refine wpAny_pure ⟨Code.quiet_builtin _ (by decide +kernel), codeAny_builtin F.entry_type_call ?_⟩
  rw [Around.under_plain (weight_type_call_type "set" [.ref l] []) rfl]
  have h1 := F.called_set.notType
  have h2 := F.called_set.canCreate
  have hct := F.typeCall_set_1 (.ref l)
  repeat (any_goals (first | assumption | wp_step))
  refine codeAny_mono (code_set_led1 (.ref l) (E := E) (Q₁ := fun obj s₁ => obj = .ref s.heap.objs.size ∧ s₁ = { s with heap := s.heap.push (freshSet w) }) ⟨rfl, rfl⟩) fun r s₁ hr => ?_
  cases r with
  | error e => exact hr
  | ok fl =>
    cases fl with
    | ret obj =>
      obtain ⟨rfl, rfl⟩ := hr
      have hS : (s.heap.push (freshSet w)).get? s.heap.objs.size = some (freshSet w) := Heap.get?_push_size _ rfl
      have hT : Shared.TypeIs { s with heap := s.heap.push (freshSet w) } (.ref s.heap.objs.size) "set" := ⟨_, hS, rfl⟩
      have hli := F.called_set.init.lookup
      have hbi := F.called_set.init.bind (.ref s.heap.objs.size)
      repeat (any_goals (first | assumption | wp_step))
      refine codeAny_mono (codeAny_call_builtin (R := wants (fun r s₂ => r = .none ∧ afterSetT P w ks s s₂) E) F.called_set.init.plain F.entry_set_init (check_set_init_1 hT ?_)) fun r₂ s₂ hr₂ => ?_
      · obtain ⟨⟨ocls, odict, odata, oslots⟩, hol, hcl, nl, hdl⟩ := hl
        simp only at hcl hdl
        subst hcl hdl
        have hol' : (s.heap.push (freshSet w)).get? l = some { cls := .type "list", dict := odict, data := .seq items nl, slots := oslots } := Heap.get?_push_of_some _ hol
        have hsls := F.sub_list_set
        have hslf := F.sub_list_frozenset
        have hne : (Value.type "list" == Value.type "dict") = false := by decide
        have hl1 : (s.heap.push (freshSet w)).IsList l items := ⟨_, hol', rfl, nl, rfl⟩
        unfold Builtin.«set.__init__» noKeywords Builtin.Frozenset.updateFrom
        generalize hPI : pyIter = PI
        wp_walk
        subst hPI
        refine wpAny_pyIter_list hl1 ?_
        refine wpAny_bind (wpAny_runValue ?_)
        have hlS : l < s.heap.objs.size := Heap.lt_size hol
        have hh3 : A.in1.in1.in1.handled = none := by simp [hh]
        have hsz : (s.heap.push (freshSet w)).objs.size = s.heap.objs.size + 1 := Heap.size_push ..
        have hneI : l ≠ (s.heap.push (freshSet w)).objs.size := by rw [hsz]; exact Nat.ne_of_lt (Nat.lt_succ_of_lt hlS)
        have hSf : s.heap.objs.size ∉ [(s.heap.push (freshSet w)).objs.size, l] := by
          rw [hsz]
          intro hm
          rcases List.mem_cons.mp hm with e | e
          · exact Nat.ne_of_lt (Nat.lt_succ_self _) e
          · exact Nat.ne_of_gt hlS (List.mem_singleton.mp e)
        have hval : ∀ (i : Nat) (v : Value), items[i]? = some v → ∃ p, ks[i]? = some p ∧ v = .ref p.1 := fun i v hv => by
          have q : items.toList[i]? = some v := by rw [Array.getElem?_toList]; exact hv
          rw [hit, List.getElem?_map] at q
          cases hq : ks[i]? with
          | none => rw [hq] at q; cases q
          | some p => rw [hq] at q; exact ⟨p, rfl, (Option.some.inj q).symm⟩
        have none_of : ∀ b, s.heap.objs.size ≤ b → s.heap.get? b = none := fun b hb => by
          cases q : s.heap.get? b with
          | none => rfl
          | some o => exact absurd (Nat.lt_of_lt_of_le (Heap.lt_size q) hb) (Nat.lt_irrefl _)
        refine upd_tupsD ((Walks.list hh3 _ l hneI items).toS) s.heap.objs.size hSf ks hisz hfew hval s.heap hk (none_of _ (Nat.le_refl _))
          (fun b hb => none_of b (by rw [List.mem_singleton.mp hb, hsz]; exact Nat.le_succ _)) hu (items.size - 0) 0 _ (by omega) (Nat.zero_le _)
          ⟨⟨_, Heap.get?_push_size _ rfl, rfl, rfl⟩, (hl1.push _)⟩ (fun b o e => Heap.get?_push_of_some _ (Heap.get?_push_of_some _ e)) ⟨[], #[], 0, _, setTR_fresh (Heap.get?_push_of_some _ hS), Got.zero ks⟩ ?_
        intro s' L es ep t hm hS' g' hkp
        obtain ⟨h', g2, d', tk', os'⟩ := s'
        have eg : g2 = s.gens := hm.gens
        have ed : d' = s.drawn := hm.drawn
        have eo : os' = s.os := hm.os
        subst eg; subst ed; subst eo
        show wpAny _ _ _ _ _ _
        refine wpAny_pure ?_
        show wpAny _ _ (ret Value.none) _ _ _
        rw [hisz] at g'
        exact wpAny_pure ⟨rfl, h', tk', L, es, ep, t, rfl, hS', g', hkp⟩
      · cases r₂ with
        | error e => exact hr₂
        | ok fl₂ =>
          cases fl₂ with
          | ret r =>
            obtain ⟨rfl, h', tk, L, es, ep, t, rfl, hS', g', hk'⟩ := hr₂
            repeat (any_goals (first | assumption | wp_step))
            exact h _ _ _ _ _ _ hS' g' hk'
          | _ => exact hr₂.elim
    | _ => exact hr.elim
end
section
variable {X : Cx}
def rSetOfD (K : PySem.W.Frag) (P : Program) (w : World) : List V → Hp → VK → Prop := fun xs H Q => ∃ (l : Addr) (ks : List (Addr × List Int)), xs = [V.ref l] ∧ SqL K H l (ks.map fun p => V.ref p.1) ∧ (∀ p ∈ ks, SqT K H p.1 (p.2.map V.int)) ∧ FewD ks ∧
  ∀ a L, H a = none → (∀ p ∈ L, p ∈ ks) → (∀ p ∈ ks, p.2 ∈ L.map (·.2)) → Q (.ref a) (upd H a (SetTO P w a L))
theorem cr_setOfD (hc : X.calm = true) (hu : X.A.units + 64 < cLine) : CallR X (.type "set") (rSetOfD X.K X.prog X.w) := by
  intro pins s σ H xs us Q I r h
  obtain ⟨l, ks, rfl, hl, hk, hf, q⟩ := h
  rw [Vals.ref1 r]
  obtain ⟨its, rv, pl, hz⟩ := I.list hl
  have hn : H s.heap.objs.size = none := I.hok.fresh (Nat.le_refl _)
  refine call_set_tupsD (P := X.prog) (w := X.w) ks (I.ok.hd hc) pl.isList (by simpa using refs_of_vals rv) (fun p hp => I.isT (hk p hp)) hf (by omega) fun h' tk L es ep t R g k => ?_
  refine ⟨.ref s.heap.objs.size, upd H s.heap.objs.size (SetTO X.prog X.w s.heap.objs.size L), I.laid (t' := tk) k (Nat.le_refl _) (setTO_new R.t0), rfl, q _ L hn (fun p hp => ?_) fun p hp => ?_⟩
  · exact List.mem_of_mem_take (g.sub p hp)
  · exact g.all p (by rw [List.take_length]; exact hp)
end
def dSortSetD (t : TD) : TD := fun ρ S Q => t ρ S fun d S1 => PeekP S1 d fun d' => match d' with
  | .lst ds => ∃ ps : List (Int × Int), ds = ps.map pairD ∧ (∀ p ∈ ps, (0 ≤ p.1 ∧ p.1 < 64) ∧ 0 ≤ p.2 ∧ p.2 < 64) ∧ (∀ l : List (Int × Int), l.Nodup → (∀ x ∈ l, x ∈ ps) → l.length < 63) ∧ ∀ ps' : List (Int × Int), ps'.Pairwise ltL → (∀ p, p ∈ ps' ↔ p ∈ ps) → Q (.lst (ps'.map pairD)) S1
  | _ => False
theorem de_sortSetD {X : Cx} {p p2 pos pos2 : Pos} {e : Expr} {te : TE} {t : TD} (hc : X.calm = true) (hu : X.A.units + 64 < cLine) (hg : Gl X "sorted") (hm : X.mg "sorted" = none) (hg2 : Gl X "set") (hm2 : X.mg "set" = none) (he : DE X e te t)
    (he1 : starEach [e] X.env = (false, eval e X.env) :: starEach [] X.env := by rfl) (hpl : (backTo pos2 (starEach [] X.env)).any (·.1) = false := by rfl)
    (he2 : starEach [.Call (.Name "set" p2) [e] [] pos2] X.env = (false, eval (.Call (.Name "set" p2) [e] [] pos2) X.env) :: starEach [] X.env := by rfl) (hpl2 : (backTo pos (starEach [] X.env)).any (·.1) = false := by rfl) :
    DE X (.Call (.Name "sorted" p) [.Call (.Name "set" p2) [e] [] pos2] [] pos) (tCB (rSortedT X.K X.prog X.w) (tCons (tCB (rSetOfD X.K X.prog X.w) (tCons te tNil)) tNil)) (dSortSetD t) := by
  refine ⟨pe_callB (cr_sortedT hc) hg hm bb_sorted (pa_cons (pe_callTy (cr_setOfD hc hu) hg2 hm2 bb_set (pa_cons he.pe pa_nil he1) (by decide) (by decide) he1 hpl) pa_nil he2) (by decide) (by decide) he2 hpl2, fun σ H ρ S Q Qv w rs q k => he.ab σ H ρ S _ _ w rs q fun v H1 x S1 r1 w1 s1 q1 => ?_⟩
  have rr := peek_rep w1 r1
  have q1 := q1.go
  generalize peek (vis S1) x = x' at rr q1
  cases x' with
  | lst ds =>
    obtain ⟨ps, rfl, hb, hl, q1⟩ := q1
    obtain ⟨a, us, rfl, h1, h2⟩ := rr.lst
    obtain ⟨eu, hz⟩ := pairs_ks h2
    have hlen : us.length = ps.length := by rw [h2.length, List.length_map]
    refine ⟨a, (us.zip ps).map (fun z => (addrOf z.1, two z.2)), rfl, ?_, fun z hz2 => ?_, fun LL hnd hsub => ?_, fun a2 L ha2 hL1 hL2 => ?_⟩
    · rw [List.map_map]
      have e2 : ((fun p : Addr × List Int => V.ref p.1) ∘ fun z : V × (Int × Int) => (addrOf z.1, two z.2)) = fun z => V.ref (addrOf z.1) := rfl
      rw [e2, ← eu]
      exact SqL.of h1
    · obtain ⟨y, hy, rfl⟩ := List.mem_map.mp hz2
      exact (hz y hy).2
    · have h3 := hl (LL.map fun q => unTwo q.2) ?_ fun x hx => ?_
      · rw [List.length_map] at h3; exact h3
      · rw [List.Nodup, List.pairwise_map] at hnd ⊢
        refine List.Pairwise.imp_of_mem ?_ hnd
        intro q r hq hr hne e
        obtain ⟨y, _, rfl⟩ := List.mem_map.mp (hsub q hq)
        obtain ⟨z, _, rfl⟩ := List.mem_map.mp (hsub r hr)
        exact hne (by show two y.2 = two z.2; rw [show y.2 = z.2 from e])
      · obtain ⟨q, hq, rfl⟩ := List.mem_map.mp hx
        obtain ⟨y, hy, rfl⟩ := List.mem_map.mp (hsub q hq)
        exact (hz y hy).1
    have st := Step.new (o := SetTO X.prog X.w a2 L) w1 ha2
    have w2 := w1.new (o := SetTO X.prog X.w a2 L) ha2
    have two_of : ∀ z ∈ L, ∃ y ∈ us.zip ps, z = (addrOf y.1, two y.2) := fun z hz2 => by
      obtain ⟨y, hy, e⟩ := List.mem_map.mp (hL1 z hz2)
      exact ⟨y, hy, e.symm⟩
    have keep : ∀ z ∈ us.zip ps, SqT X.K (upd H1 a2 (SetTO X.prog X.w a2 L)) (addrOf z.1) [.int z.2.1, .int z.2.2] := fun z hz2 => by
      obtain ⟨m, hm⟩ := List.getElem?_of_mem hz2
      obtain ⟨hm1, hm2⟩ := List.getElem?_zip_eq_some.mp (show (us.zip ps)[m]? = some (z.1, z.2) from hm)
      have r3 := (h2.mono st).get (i := m) (d := pairD z.2) (by rw [List.getElem?_map, hm2]; rfl)
      obtain ⟨v, hv, r4⟩ := r3
      rw [hm1] at hv
      have hv := Option.some.inj hv
      subst hv
      obtain ⟨_, u, e, hu2⟩ := pair_rep r4
      rw [e]
      exact SqT.of hu2
    refine ⟨a2, L, 2, 64, rfl, upd_same, fun z hz2 => ?_, by decide, fun z hz2 => ?_, fun L' p3 hp3 hn3 hl3 hs3 h3 => ?_⟩
    · obtain ⟨y, hy, rfl⟩ := two_of z hz2
      exact keep y hy
    · obtain ⟨y, hy, rfl⟩ := two_of z hz2
      refine ⟨rfl, fun n hn => ?_⟩
      have hb := hb y.2 (hz y hy).1
      rcases List.mem_cons.mp hn with e | hn
      · subst e; exact hb.1
      · rcases List.mem_cons.mp hn with e | hn
        · subst e; exact hb.2
        · cases hn
    have of' : ∀ z ∈ L', ∃ y ∈ us.zip ps, z = (addrOf y.1, two y.2) := fun z hz2 => two_of z (hp3.mem_iff.mp hz2)
    have rl : RepL X.K (upd H1 a2 (SetTO X.prog X.w a2 L)) S1 (L'.map fun q => V.ref q.1) ((L'.map fun q => unTwo q.2).map pairD) := by
      rw [List.map_map]
      have key : ∀ l : List (Addr × List Int), (∀ z ∈ l, ∃ y ∈ us.zip ps, z = (addrOf y.1, two y.2)) → RepL X.K (upd H1 a2 (SetTO X.prog X.w a2 L)) S1 (l.map fun q => V.ref q.1) (l.map (pairD ∘ fun q => unTwo q.2)) := fun l => by
        induction l with
        | nil => intro _; exact .nil
        | cons z l ih =>
          intro hl2
          refine .cons ?_ (ih fun u hu => hl2 u (List.mem_cons_of_mem _ hu))
          obtain ⟨y, hy, rfl⟩ := hl2 z List.mem_cons_self
          obtain ⟨m, hm⟩ := List.getElem?_of_mem hy
          obtain ⟨hm1, hm2⟩ := List.getElem?_zip_eq_some.mp (show (us.zip ps)[m]? = some (y.1, y.2) from hm)
          obtain ⟨v, hv, r4⟩ := (h2.mono st).get (i := m) (d := pairD y.2) (by rw [List.getElem?_map, hm2]; rfl)
          rw [hm1] at hv
          have hv := Option.some.inj hv
          subst hv
          obtain ⟨_, u, e, hu2⟩ := pair_rep r4
          show Rep X.K _ S1 (V.ref (addrOf y.1)) (pairD y.2)
          have e2 : V.ref (addrOf y.1) = y.1 := by rw [e]; rfl
          rw [e2]
          exact r4
      exact key L' of'
    have st3 := Step.new (o := .lst (L'.map fun q => V.ref q.1)) w2 h3
    refine k _ _ _ _ (.lst upd_same (w2.free h3) (rl.mono st3)) (w2.new h3) ((s1.trans st).trans st3) (q1 _ ?_ fun p5 => ?_)
    · rw [List.pairwise_map]
      have hn4 : L'.Pairwise fun q r => q.2 ≠ r.2 := List.pairwise_map.mp hn3
      refine List.Pairwise.imp_of_mem ?_ (List.Pairwise.and hs3 hn4)
      intro q r hq hr h
      obtain ⟨y, hy, rfl⟩ := of' q hq
      obtain ⟨u, hu2, rfl⟩ := of' r hr
      have b1 := hb y.2 (hz y hy).1
      have b2 := hb u.2 (hz u hu2).1
      exact pair_lt h.1 h.2 b1.1 b1.2 b2.1 b2.2
    · rw [List.mem_map]
      constructor
      · rintro ⟨q, hq, rfl⟩
        obtain ⟨y, hy, rfl⟩ := of' q hq
        exact (hz y hy).1
      · intro hp5
        obtain ⟨z, hz1, rfl⟩ := zip_snd hlen hp5
        obtain ⟨q, hq, e⟩ := List.mem_map.mp (hL2 (addrOf z.1, two z.2) (List.mem_map.mpr ⟨z, hz1, rfl⟩))
        exact ⟨q, hp3.mem_iff.mpr hq, by rw [e]; rfl⟩
  | _ => exact q1.elim
/-! ### sorted(set(list of ints)), any number of items, all in 0 .. 59 -/
theorem nodup_le {α : Type} [DecidableEq α] : ∀ {l m : List α}, l.Nodup → (∀ x ∈ l, x ∈ m) → l.length ≤ m.length
  | [], m, _, _ => Nat.zero_le _
  | x :: l, m, hn, h => by
    obtain ⟨h1, h2⟩ := List.nodup_cons.mp hn
    have hx := h x List.mem_cons_self
    have := nodup_le (m := m.erase x) h2 fun y hy => (List.mem_erase_of_ne (fun e => h1 (by rw [← e]; exact hy))).mpr (h y (List.mem_cons_of_mem _ hy))
    rw [List.length_erase_of_mem hx] at this
    have := List.length_pos_of_mem hx
    rw [List.length_cons]
    omega
theorem setR_few {w : World} {h : Heap} {a : Addr} {ns : List Int} {c : Nat} (R : SetR w h a (fun j => decide (j ∈ ns)) c) (hb : ∀ k ∈ ns, 0 ≤ k ∧ k < 60) : c < 64 := by
  obtain ⟨o, es, ep, t, _, _, _, _, hn, hm, _, _, hc, _, _⟩ := R
  have h1 : (es.toList.map keyOf).length ≤ (irg 0 60).length := nodup_le hn fun x hx => by
    have := hb x (of_decide_eq_true ((hm x).mpr hx))
    exact mem_irg.mpr ⟨this.1, this.2⟩
  rw [List.length_map, Array.length_toList, irg_len] at h1
  have : (60 - 0 : Int).toNat = 60 := by decide
  omega
section
variable {X : Cx}
def rSetOfI2 (K : PySem.W.Frag) (w : World) : List V → Hp → VK → Prop := fun xs H Q => ∃ (l : Addr) (ns : List Int), xs = [V.ref l] ∧ SqL K H l (ns.map V.int) ∧ ns.length ≤ 900 ∧ (∀ k ∈ ns, 0 ≤ k ∧ k < 60) ∧
  ∀ a c, H a = none → c < 64 → Q (.ref a) (upd H a (SetO w a (fun j => decide (j ∈ ns)) c))
theorem cr_setOfI2 (hc : X.calm = true) : CallR X (.type "set") (rSetOfI2 X.K X.w) := by
  intro pins s σ H xs us Q I r h
  obtain ⟨l, ns, rfl, hl, hf, hb, q⟩ := h
  rw [Vals.ref1 r]
  obtain ⟨its, rv, pl, hz⟩ := I.list hl
  have hn : H s.heap.objs.size = none := I.hok.fresh (Nat.le_refl _)
  refine call_set_listI (P := X.prog) (w := X.w) ns (I.ok.hd hc) pl.isList (by simpa using ints_of_vals rv) (by have := sb64; omega) fun h' tk c R hcn k => ?_
  exact ⟨.ref s.heap.objs.size, upd H s.heap.objs.size (SetO X.w s.heap.objs.size (fun j => decide (j ∈ ns)) c), I.laid (t' := tk) k (Nat.le_refl _) (setO_new R), rfl, q _ c hn (setR_few R hb)⟩
def dSortSetI2 (t : TD) : TD := fun ρ S Q => t ρ S fun x S1 => PeekP S1 x fun x0 => match x0 with
  | .lst ds => ∃ ns : List Int, ds = ns.map D.int ∧ ns.length ≤ 900 ∧ (∀ k ∈ ns, 0 ≤ k ∧ k < 60) ∧ ∀ ms : List Int, ms.Pairwise (· < ·) → (∀ k, k ∈ ms ↔ k ∈ ns) → Q (.lst (ms.map D.int)) S1
  | _ => False
theorem de_sortSetI2 {K : PySem.W.Frag} {p p2 pos pos2 : Pos} {e : Expr} {te : TE} {t : TD} (hc : X.calm = true) (hg : Gl X "sorted") (hm : X.mg "sorted" = none) (hg2 : Gl X "set") (hm2 : X.mg "set" = none) (he : DE X e te t)
    (hK : X.K = K := by rfl)
    (he1 : starEach [e] X.env = (false, eval e X.env) :: starEach [] X.env := by rfl) (hpl : (backTo pos2 (starEach [] X.env)).any (·.1) = false := by rfl)
    (he2 : starEach [.Call (.Name "set" p2) [e] [] pos2] X.env = (false, eval (.Call (.Name "set" p2) [e] [] pos2) X.env) :: starEach [] X.env := by rfl) (hpl2 : (backTo pos (starEach [] X.env)).any (·.1) = false := by rfl) :
    DE X (.Call (.Name "sorted" p) [.Call (.Name "set" p2) [e] [] pos2] [] pos) (tCB (rSortedSet X.w) (tCons (tCB (rSetOfI2 X.K X.w) (tCons te tNil)) tNil)) (dSortSetI2 t) := by
  refine ⟨pe_callB (cr_sortedSet hc) hg hm bb_sorted (pa_cons (pe_callTy (cr_setOfI2 hc) hg2 hm2 bb_set (pa_cons he.pe pa_nil he1) (by decide) (by decide) he1 hpl) pa_nil he2) (by decide) (by decide) he2 hpl2, fun σ H ρ S Q Qv w rs q k => he.ab σ H ρ S _ _ w rs q fun v H1 x S1 r1 w1 s1 q1 => ?_⟩
  have rr := peek_rep w1 r1
  have q1 := q1.go
  generalize peek (vis S1) x = x' at rr q1
  cases x' with
  | lst ds =>
    obtain ⟨ns, rfl, hl, hb, q1⟩ := q1
    obtain ⟨a, us, rfl, h1, h2⟩ := rr.lst
    rw [RepL.ints_of h2] at h1
    refine ⟨a, ns, rfl, SqL.of h1, hl, hb, fun a2 c ha2 hc2 => ?_⟩
    have st := Step.new (o := SetO X.w a2 (fun j => decide (j ∈ ns)) c) w1 ha2
    have w2 := w1.new (o := SetO X.w a2 (fun j => decide (j ∈ ns)) c) ha2
    refine ⟨a2, _, c, rfl, upd_same, hc2, fun ms p3 hp3 hm3 hl3 h3 => ?_⟩
    have st3 := Step.new (o := .lst (ms.map V.int)) w2 h3
    exact k _ _ _ _ (.lst upd_same (w2.free h3) RepL.ints) (w2.new h3) ((s1.trans st).trans st3) (q1 ms hp3 fun k => by rw [hm3]; exact decide_eq_true_iff)
  | _ => exact q1.elim
end
/-! ### xs[lo:hi] as a list to be changed -/
def dSlO (t : TD) (tl th : TDO) : TD := fun ρ S Q => t ρ S fun d S1 => tl ρ S1 fun lo S2 => th ρ S2 fun hi S3 => PeekP S3 d fun d' => match d' with
  | .lst ds => ∀ p, S3 p = none → Q (.ref p) (updS S3 p (.lst (cutL ds lo hi)))
  | _ => False
theorem k_slO {X : Cx} {K : PySem.W.Frag} {e : Expr} {lo hi : Option Expr} {te : TE} {d : TD} {tl th : TO} {dl dh : TDO} {p2 pos : Pos} (he : DE X e te d) (hl : DO X lo tl dl) (hh : DO X hi th dh) (hK : X.K = K := by rfl) : DE X (.Subscript e (.Slice lo hi none p2) pos) (tSl (rSl K) te tl th) (dSlO d dl dh) := by
  subst hK
  exact ⟨pe_slice (sl_list.or (sl_tupA.or sl_str)) he.pe hl.po hh.po, fun σ H ρ S Q Qv w rs q k => he.ab σ H ρ S _ _ w rs q fun v H1 x S1 r1 w1 s1 q1 => hl.ab σ H1 ρ S1 _ _ w1 (rs.mono s1) q1 fun lo H2 S2 w2 s2 q2 => hh.ab σ H2 ρ S2 _ _ w2 (rs.mono (s1.trans s2)) q2 fun hi H3 S3 w3 s3 q3 => by
    have rr := peek_rep w3 (r1.mono (s2.trans s3))
    have st := (s1.trans s2).trans s3
    have q3 := q3.go
    generalize peek (vis S3) x = x' at rr q3
    cases x' with
    | lst ds =>
      obtain ⟨a, vs, rfl, h1, h2⟩ := rr.lst
      exact .inl ⟨a, vs, rfl, SqL.of h1, fun p hp => k _ _ _ _ (.ref p) (w3.newS (m := .lst (cutL ds lo hi)) hp ⟨_, upd_same, (cut_rep h2 lo hi).mono (Step.newS w3 hp)⟩) (st.trans (Step.newS w3 hp)) (by rw [vis_upd (by intro z; cases z)]; exact q3 p (vis_none (w3.free hp)))⟩
    | _ => exact q3.elim⟩
end DL

/-! ### enumerate(tuple) -/
namespace DL
open PySem PySem.Spec PyProof.Rows L2
open AutoSeq1 (wpAny_loadPart')
theorem meets_enum_newT (l : Addr) (items : Array Value) (n : Nat) (dct : Option Addr) (sl : Array (Option Value)) :
    Meets (Builtin.«enumerate.__new__» ⟨[.type "enumerate", .ref l], []⟩) (fun _ R s => s.heap.get? l = some { cls := .type "tuple", dict := dct, data := .seq items n, slots := sl } ∧
      R (.ok (.ret (.ref (s.heap.push { cls := .type "tuple_iterator", data := .fields #[.ref l, .int 0 0] }).objs.size)))
        { s with heap := (s.heap.push { cls := .type "tuple_iterator", data := .fields #[.ref l, .int 0 0] }).push { cls := .type "enumerate", data := .fields #[.none, .bool false, .ref s.heap.objs.size, rawInt 0, .none, .none] } }) :=
  .of_wp fun prog w A R s h => by
    obtain ⟨hp, g, d, tk, os⟩ := s; obtain ⟨hl, h⟩ := h
    have hsub := sub_enumerate
    have hL : Heap.IsTuple (Shared.heap ⟨hp, g, d, tk, os⟩) l items := ⟨_, hl, rfl, n, rfl⟩
    wp_walk using wpAny_loadPart' hl
    refine wpAny_stack_any fun st => wpAny_pure ?_
    split
    · rename_i c _ _ _ _ _
      cases (c == Value.type "enumerate")
      · wp_walk using wpAny_loadPart' hl, wpAny_pyIter_tuple hL
        exact ⟨_, rfl, h⟩
      · wp_walk using wpAny_loadPart' hl, wpAny_pyIter_tuple hL
        exact ⟨_, rfl, h⟩
    · wp_walk using wpAny_loadPart' hl, wpAny_pyIter_tuple hL
      exact ⟨_, rfl, h⟩
section
variable {prog : Program} {w : World} {A : Around} {E : Value → Shared → Prop} {s : Shared}
theorem call_enum_tup {l : Addr} {items : Array Value} {Q : Value → Shared → Prop} (hL : s.heap.IsTuple l items)
    (h : ∀ h', IsEnum h' (s.heap.objs.size + 1) s.heap.objs.size 0 .none → h'.IsTupleIter s.heap.objs.size l 0 → h'.objs.size = s.heap.objs.size + 2 →
      (∀ b o, s.heap.get? b = some o → h'.get? b = some o) → Q (.ref (s.heap.objs.size + 1)) { s with heap := h' }) :
    wpAny (model prog w) A (call (.type "enumerate") [.ref l]) Q E s := by
  obtain ⟨⟨c, dct, dt, sl⟩, hl, hc, n, hd⟩ := hL
  replace hc : c = .type "tuple" := hc
  replace hd : dt = .seq items n := hd
  subst hc hd
  refine callType_new F.called_enumerate (by decide) (F.typeCall_enumerate_1 _) (F.newCall_enumerate_1 _) (fun obj => F.args_object_init_2 obj _) F.entry_enumerate_new
    (meets_enum_newT l items n dct sl) ⟨hl, ?_⟩
  have hz : (s.heap.push { cls := .type "tuple_iterator", data := .fields #[.ref l, .int 0 0] }).objs.size = s.heap.objs.size + 1 := Heap.size_push ..
  show _ ∧ _
  rw [hz]
  have he : IsEnum ((s.heap.push { cls := .type "tuple_iterator", data := .fields #[.ref l, .int 0 0] }).push
      { cls := .type "enumerate", data := .fields #[.none, .bool false, .ref s.heap.objs.size, rawInt 0, .none, .none] }) (s.heap.objs.size + 1) s.heap.objs.size 0 .none := by
    have := Heap.get?_push_size (s.heap.push { cls := .type "tuple_iterator", data := .fields #[.ref l, .int 0 0] })
      (o := { cls := .type "enumerate", data := .fields #[.none, .bool false, .ref s.heap.objs.size, rawInt 0, .none, .none] }) rfl
    rw [hz] at this; exact this
  refine ⟨⟨_, he, rfl⟩, h _ he ⟨_, Heap.get?_push_of_some _ (Heap.get?_push_size _ rfl), rfl, rfl⟩ (by rw [Heap.size_push, hz]) fun b o x => Heap.get?_push_of_some _ (Heap.get?_push_of_some _ x)⟩
end
/-- the tuple at a, each item in a new pair -/
def Itet (K : PySem.W.Frag) (a : Addr) : It :=
  ⟨fun i H => ∃ (xs : List V) (x : V), SqT K H a xs ∧ xs[i]? = some x, fun i H v H' => ∃ T x, v = .ref T ∧ H T = none ∧ H' = upd H T (.tup [.int (i : Nat), x]) ∧ ∀ xs, SqT K H a xs → xs[i]? = some x, fun i H => ∃ xs : List V, SqT K H a xs ∧ xs.length = i⟩
theorem turn_enumT {P : Program} {w : World} {K : PySem.W.Frag} {elts : List Expr} {kk : Nat} {tpos : Pos} (a e it : Addr) :
    Turn P w K (.Tuple elts kk tpos) (Itet K a) [e, it] e (fun i h => (∃ old, IsEnum h e it ((i : Nat) : Int) old) ∧ h.IsTupleIter it a i ∧ e ≠ it ∧ e ≠ a ∧ a ≠ it) where
  mem := by simp
  obj := fun i h st b hb => by
    obtain ⟨⟨old, he⟩, ⟨o, ho, hc, hd⟩, _⟩ := st
    have e' : b = e ∨ b = it := by simpa using hb
    rcases e' with z | z
    · rw [z]; exact ⟨_, he, fun v q => nomatch q⟩
    · rw [z]; exact ⟨o, ho, fun v q => by rw [hd] at q; cases q⟩
  keep := fun i h h' st k => let ⟨⟨old, he⟩, hi, hne⟩ := st; ⟨⟨old, k e (by simp) _ he⟩, hi.at fun o q => k it (by simp) o q, hne⟩
  item := by
    intro X hP hw hK hc i pins s σ H E I hf st hg
    subst hP hw hK
    obtain ⟨⟨old, he⟩, hit, hne, hea, hai⟩ := st
    obtain ⟨xs, x, hq, hx⟩ := hg
    obtain ⟨its, rv, p, hz⟩ := I.tuple hq
    obtain ⟨u, hu, ru⟩ := rv.get hx
    have hel : e < s.heap.objs.size := Heap.lt_size he
    have hil : it < s.heap.objs.size := by obtain ⟨_, q, _⟩ := hit; exact Heap.lt_size q
    have hul := (List.getElem?_eq_some_iff.mp hu).1
    refine wpAny_pyNext_enum_itemD (Draws.tuple (A := X.A.in1) (by have := I.ok.hd hc; simp [this]) it a hai its.toArray) he ⟨hit, p⟩ (by rw [List.size_toArray]; exact hul) hne (by simp [hne, hea]) fun u2 h' tk hP ho hst' hT hsz hk => ?_
    obtain ⟨hit', _⟩ := hst'
    have hu2 : u2 = u := by
      have : its.toArray[i]? = some u := by simpa using hu
      rw [this] at hP; exact (Option.some.inj hP).symm
    subst hu2
    refine ⟨_, rfl, wpAny_letOwnedTupleGo_enum (s := { s with heap := h', toks := tk + 1 }) ho fun h'' he' sb => ?_⟩
    have hT2 : h''.get? s.heap.objs.size = some { cls := .type "tuple", data := .seq #[.int i tk, u2] } := (sb.2 _ (Nat.ne_of_gt hel)).trans hT
    have new : ObjOk X.prog X.w (upd H s.heap.objs.size (.tup [.int (i : Nat), x])) h'' s.heap.objs.size (.tup [.int (i : Nat), x]) :=
      ⟨by show 2 ≤ sizeLine; decide, [.int i tk, u2], .cons ⟨_, rfl⟩ (.cons ru .nil), ⟨_, hT2, rfl, _, rfl⟩⟩
    have I1 : Inv X pins σ (upd H s.heap.objs.size (.tup [.int (i : Nat), x])) { s with heap := h'', toks := tk + 1 } :=
      I.turnedNew (ch := [e, it]) (fun b ob hb q => (sb.2 b (fun z => hb (by simp [z]))).trans (hk b ob (fun z => hb (by simp [z])) (fun z => hb (by simp [z])) q)) hf (Nat.le_refl _) new
    refine ⟨.ref s.heap.objs.size, _, I1, rfl, ⟨_, x, rfl, I.hok.fresh (Nat.le_refl _), rfl, fun ys hy => by rw [I.tuple_inj hy hq]; exact hx⟩, ⟨⟨u2, ?_⟩, hit'.at fun o q => (sb.2 it (Ne.symm hne)).trans q, hne, hea, hai⟩, fun b hb => ?_⟩
    · have e1 : ((i + 1 : Nat) : Int) = (i : Int) + 1 := by omega
      rw [e1]; exact he'
    · have hb' : b < s.heap.objs.size := by
        have e' : b = e ∨ b = it := by simpa using hb
        rcases e' with z | z
        · rw [z]; exact hel
        · rw [z]; exact hil
      rw [upd_ne (Nat.ne_of_lt hb')]
      exact (hf b hb).1
  done := by
    intro X hP hw hK hc i pins s σ H E I hf st hg
    subst hP hw hK
    obtain ⟨⟨old, he⟩, hit, hne, hea, hai⟩ := st
    obtain ⟨xs, hq, hx⟩ := hg
    obtain ⟨its, rv, p, hz⟩ := I.tuple hq
    obtain ⟨f0, f1, f2, f3, f4, f5⟩ := hf it (by simp)
    have hl := rv.length
    have hn : i = its.toArray.size := by rw [List.size_toArray]; omega
    subst hn
    exact wpAny_pyNext_enum_endD (Draws.tuple (A := X.A.in1) (by have := I.ok.hd hc; simp [this]) it a hai its.toArray) he ⟨hit, p⟩ fun h' eb => ⟨rfl, I.turned (t' := s.toks) (fun b o hb q => eb b o hb q) f0 f1 f3 f4 f5⟩
  self := fun A i s Q E st h => let ⟨⟨_, he⟩, _⟩ := st; wpAny_pyIter_enum he h
def iEnumT (K : PySem.W.Frag) (ta : TA) : TI := fun σ H R => ta σ H fun vs H1 => ∃ a xs, vs = [.ref a] ∧ SqT K H1 a xs ∧ R (Itet K a) H1
theorem pi_enumT {X : Cx} {e : Expr} {ta : TA} {p pos tpos : Pos} {elts : List Expr} {kk : Nat} (hg : Gl X "enumerate") (hm : X.mg "enumerate" = none) (ha : PA X [e] ta) (hs : starEach [e] X.env = [(false, eval e X.env)] := by rfl) :
    PI X (.Tuple elts kk tpos) (.Call (.Name "enumerate" p) [e] [] pos) (iEnumT X.K ta) := by
  refine ⟨fun pins s σ H R I h => ?_⟩
  refine Call_ (ld_blt I hg hm boot_enumerate (PyProof.Rows.callWith_type1 (thn (ha.run pos pins s σ H _ I h) fun us s1 ⟨vs, H1, I1, r1, q1⟩ => ?_) hs rfl))
  obtain ⟨a, xs, ex, hq, q⟩ := q1
  subst ex
  cases r1 with
  | cons r rr =>
    cases rr
    cases r
    obtain ⟨its, rv, p', hz⟩ := I1.tuple hq
    have hal : a < s1.heap.objs.size := by obtain ⟨o, ho, _⟩ := p'; exact Heap.lt_size ho
    refine call_enum_tup p' fun h' he hit hsz hk => wpAny_pyIter_enum he ?_
    have I2 : Inv X pins σ H1 { s1 with heap := h' } := I1.kept (t' := s1.toks) hk
    refine ⟨s1.heap.objs.size + 1, [s1.heap.objs.size + 1, s1.heap.objs.size], _, _, H1, rfl, I2, turn_enumT a (s1.heap.objs.size + 1) s1.heap.objs.size, ⟨⟨.none, he⟩, hit, Nat.succ_ne_self _, Nat.ne_of_gt (Nat.lt_succ_of_lt hal), Nat.ne_of_lt hal⟩, fun b hb => ?_, q⟩
    have e' : b = s1.heap.objs.size + 1 ∨ b = s1.heap.objs.size := by simpa using hb
    have hle : s1.heap.objs.size ≤ b := by
      rcases e' with z | z
      · rw [z]; exact Nat.le_add_right _ _
      · rw [z]; exact Nat.le_refl _
    exact I1.fpOk hle (I1.hok.fresh hle)
section
variable {K : PySem.W.Frag} {H0 : Hp} {S0 : Sto} {a : Addr} {us : List V} {xs : List D}
theorem jrep_enumT (ha : ∀ H S, Wd K H S → Keep H0 S0 H S → SqT K H a us ∧ RepL K H S us xs) : JRep K (Itet K a) H0 S0 (enumD xs) := fun H S w st => by
  obtain ⟨h1, h2⟩ := ha H S w st
  refine ⟨fun i d hd => ?_, ⟨us, h1, by rw [enumD_len, h2.length]⟩⟩
  obtain ⟨x, hx, rfl⟩ := enumD_get hd
  obtain ⟨u, hu, ru⟩ := h2.get hx
  refine ⟨⟨us, u, h1, hu⟩, fun z H' q => ?_⟩
  obtain ⟨T, x', rfl, hT, rfl, e1⟩ := q
  have e1 := e1 _ h1
  rw [hu] at e1
  cases e1
  have st2 := Step.new (o := .tup [.int (i : Nat), u]) w hT
  exact ⟨.tup upd_same (w.free hT) (.cons (.int _) (.cons (ru.mono st2) .nil)), w.new hT, st2⟩
end
def dEnumT (t : TD) : TDI := fun ρ S Q => t ρ S fun x S1 => match x with
  | .tup xs => Q (enumD xs) S1
  | _ => False
theorem k_diEnumT {X : Cx} {K : PySem.W.Frag} {e : Expr} {te : TE} {t : TD} {p pos tpos : Pos} {elts : List Expr} {kk : Nat} (hg : Gl X "enumerate") (hm : X.mg "enumerate" = none) (he : DE X e te t) (hK : X.K = K := by rfl) (hs : starEach [e] X.env = (false, eval e X.env) :: starEach [] X.env := by rfl) :
    DI X (.Tuple elts kk tpos) (.Call (.Name "enumerate" p) [e] [] pos) (iEnumT K (tCons te tNil)) (dEnumT t) := by
  subst hK
  refine ⟨pi_enumT hg hm (pa_cons he.pe pa_nil hs) hs, fun σ H ρ S Q R w rs q k => he.ab σ H ρ S _ _ w rs q fun v H1 x S1 r1 w1 s1 q1 => ?_⟩
  split at q1
  · obtain ⟨a, us, rfl, h1⟩ := rep_tup_stay r1
    exact ⟨a, us, rfl, (h1 _ _ w1 Keep.refl).1, k _ _ _ _ w1 s1 (jrep_enumT h1) q1⟩
  · exact q1.elim
theorem for_enumT {t : TD} {tb : TDS} {g : TDG} {E : DEnds} {ρ : DSt} {S : Sto} {xs : List D} (ht : ∀ Q : DQ, Q (.tup xs) S → t ρ S Q) (W : Nat → DSt → Sto → Prop) (h0 : W 0 ρ S)
    (hs : ∀ (i : Nat) (x : D) ρ' S', xs[i]? = some x → W i ρ' S' → g (.tup [.int (i : Nat), x]) ρ' S' fun ρ2 S2 => tb { E with nx := W (i + 1), ct := W (i + 1), bk := E.nx } ρ2 S2) (hd : ∀ ρ' S', W xs.length ρ' S' → E.nx ρ' S') : dFor (dEnumT t) g tb E ρ S :=
  ⟨ht _ ⟨W, h0, fun i d ρ' S' h w => by
    obtain ⟨x, hx, rfl⟩ := enumD_get h
    exact hs i x ρ' S' hx w, fun ρ' S' w => hd ρ' S' (by rw [enumD_len] at w; exact w)⟩⟩
end DL

namespace DL
open PySem PySem.Spec PyProof.Rows L2
/-! ### an owned list that is changed no more, read by value -/
def dEra (i : Nat) : TD := fun ρ S Q => match slot ρ i with
  | some (.ref l) => IsLst (S l) fun ds => Q (.lst ds) (eraS S l)
  | _ => False
theorem vis_eraL {S : Sto} {a : Addr} {m : MO} (h : S a = some m) (hm : m ≠ .hid) : vis (eraS S a) = eraS (vis S) a := by
  funext b
  unfold vis eraS
  by_cases e : b = a
  · subst e; rw [if_pos rfl, if_pos rfl]
  · rw [if_neg e, if_neg e]
theorem Step.era {H : Hp} {S : Sto} {a : Addr} {m : MO} (h : S a = some m) (hm : m ≠ .hid) : Step H S H (eraS S a) := ⟨Keep.era, fun b e => ⟨rfl, by
  unfold eraS
  rw [if_neg (fun z => by subst z; rw [h] at e; cases e; exact hm rfl)]
  exact e⟩⟩
theorem era_new {S : Sto} {a : Addr} {m : MO} (h : S a = none) : eraS (updS S a m) a = S := by
  funext b
  unfold eraS updS
  by_cases e : b = a
  · subst e; rw [if_pos rfl, h]
  · rw [if_neg e, if_neg e]
theorem dv_era {X : Cx} (i : Nat) {x : Str} {pos : Pos} (hN : X.N[i]? = some x := by rfl) (hv : Vis X.env.scope x := by first | exact Or.inl rfl | exact Or.inr (Or.inl rfl) | exact Or.inr (Or.inr rfl)) (hd : (x == ("__debug__" : Str)) = false := by decide)
    (hcd : (x == ("__classdict__" : Str)) = false := by decide) : DE X (.Name x pos) (tVar i) (dEra i) := ⟨pe_var hN hv hd hcd, fun σ H ρ S Q Qv w rs h k => by
  unfold dEra at h
  cases e : slot ρ i with
  | none => rw [e] at h; exact h.elim
  | some d =>
    rw [e] at h
    cases d with
    | ref l =>
      obtain ⟨v, h1, r⟩ := rs.at e
      cases r
      obtain ⟨ds, e2, q⟩ := h.get
      obtain ⟨h2, h3⟩ := vis_of e2
      obtain ⟨vs, h4, h5⟩ := w l _ h2
      refine ⟨_, h1, k _ H (.lst ds) (eraS S l) (.lst h4 (by unfold eraS; rw [if_pos rfl]) (h5.mono (Step.era h2 h3))) w.era (Step.era h2 h3) ?_⟩
      rw [vis_eraL h2 h3]
      exact q
    | _ => exact h.elim⟩
end DL

namespace K
open PySem PySem.Spec PyProof.Rows L2 DL

def top (i : Nat) : Stmt := PySem.Challenge.pw_sideouts_k11_whole_sheets_of_few_rallies.main.body.getD i (.Pass ⟨0, 0, 0, 0⟩)
abbrev s_choices : Stmt := top 1
theorem sc_choices : FnScope ["many", "some", "found", "turn"] ["many", "some"] (defScope s_choices) := ⟨rfl, rfl, rfl, by decide +kernel, rfl, by decide +kernel, by decide +kernel⟩
abbrev s_change_choices : Stmt := top 2
theorem sc_change_choices : FnScope ["serving", "one", "other", "later", "own", "far", "turn"] ["serving", "one", "other", "later"] (defScope s_change_choices) := ⟨rfl, rfl, rfl, by decide +kernel, rfl, by decide +kernel, by decide +kernel⟩
abbrev s_rotations_after : Stmt := top 4
theorem sc_rotations_after : FnScope ["first", "number", "few", "more"] ["first", "number"] (defScope s_rotations_after) := ⟨rfl, rfl, rfl, by decide +kernel, rfl, by decide +kernel, by decide +kernel⟩
abbrev s_steps : Stmt := top 6
theorem sc_steps : FnScope ["first", "sheet", "found", "before", "entry"] ["first", "sheet"] (defScope s_steps) := ⟨rfl, rfl, rfl, by decide +kernel, rfl, by decide +kernel, by decide +kernel⟩
abbrev s_all_choices : Stmt := top 7
theorem sc_all_choices : FnScope ["first", "sheet", "found", "entry", "step", "one", "other", "serving"] ["first", "sheet"] (defScope s_all_choices) := ⟨rfl, rfl, rfl, by decide +kernel, rfl, by decide +kernel, by decide +kernel⟩
abbrev s_first_wrong : Stmt := top 8
theorem sc_first_wrong : FnScope ["first", "sheet", "index", "some"] ["first", "sheet"] (defScope s_first_wrong) := ⟨rfl, rfl, rfl, by decide +kernel, rfl, by decide +kernel, by decide +kernel⟩
abbrev s_fits : Stmt := top 9
theorem sc_fits : FnScope ["first", "sheet"] ["first", "sheet"] (defScope s_fits) := ⟨rfl, rfl, rfl, by decide +kernel, rfl, by decide +kernel, by decide +kernel⟩
abbrev s_count_sheet : Stmt := top 10
theorem sc_count_sheet : FnScope ["first", "sheet", "total", "entry", "step", "one", "other", "serving"] ["first", "sheet"] (defScope s_count_sheet) := ⟨rfl, rfl, rfl, by decide +kernel, rfl, by decide +kernel, by decide +kernel⟩
abbrev s_change_ranges : Stmt := top 11
theorem sc_change_ranges : FnScope ["first", "sheet", "found", "low", "high", "some"] ["first", "sheet"] (defScope s_change_ranges) := ⟨rfl, rfl, rfl, by decide +kernel, rfl, by decide +kernel, by decide +kernel⟩
abbrev s_rotations_at : Stmt := top 12
theorem sc_rotations_at : FnScope ["sizes", "first", "sheet", "index", "low", "high", "found", "number", "one", "other"] ["sizes", "first", "sheet", "index"] (defScope s_rotations_at) := ⟨rfl, rfl, rfl, by decide +kernel, rfl, by decide +kernel, by decide +kernel⟩
abbrev s__law_draw : Stmt := top 14
theorem sc__law_draw : FnScope ["tape", "many", "prime", "cell", "found"] ["tape", "many"] (defScope s__law_draw) := ⟨rfl, rfl, rfl, by decide +kernel, rfl, by decide +kernel, by decide +kernel⟩
abbrev s__law_like : Stmt := top 15
theorem sc__law_like : FnScope ["one", "two", "k"] ["one", "two"] (defScope s__law_like) := ⟨rfl, rfl, rfl, by decide +kernel, rfl, by decide +kernel, by decide +kernel⟩
abbrev s__law_side : Stmt := top 16
theorem sc__law_side : FnScope ["tape"] ["tape"] (defScope s__law_side) := ⟨rfl, rfl, rfl, by decide +kernel, rfl, by decide +kernel, by decide +kernel⟩
abbrev s__law_far : Stmt := top 17
theorem sc__law_far : FnScope ["side"] ["side"] (defScope s__law_far) := ⟨rfl, rfl, rfl, by decide +kernel, rfl, by decide +kernel, by decide +kernel⟩
abbrev s__law_sizes : Stmt := top 18
theorem sc__law_sizes : FnScope ["tape", "one"] ["tape"] (defScope s__law_sizes) := ⟨rfl, rfl, rfl, by decide +kernel, rfl, by decide +kernel, by decide +kernel⟩
abbrev s__law_now : Stmt := top 19
theorem sc__law_now : FnScope ["first", "text", "points", "turned", "serving", "winner"] ["first", "text"] (defScope s__law_now) := ⟨rfl, rfl, rfl, by decide +kernel, rfl, by decide +kernel, by decide +kernel⟩
abbrev s__law_all : Stmt := top 20
theorem sc__law_all : FnScope ["size", "found", "turn", "longer", "text"] ["size"] (defScope s__law_all) := ⟨rfl, rfl, rfl, by decide +kernel, rfl, by decide +kernel, by decide +kernel⟩
abbrev s__law_sheet : Stmt := top 21
theorem sc__law_sheet : FnScope ["tape", "first", "text", "most", "found", "size", "at"] ["tape", "first", "text", "most"] (defScope s__law_sheet) := ⟨rfl, rfl, rfl, by decide +kernel, rfl, by decide +kernel, by decide +kernel⟩
abbrev s__law_fitting : Stmt := top 22
theorem sc__law_fitting : FnScope ["first", "sheet", "found", "text", "a", "b", "side"] ["first", "sheet"] (defScope s__law_fitting) := ⟨rfl, rfl, rfl, by decide +kernel, rfl, by decide +kernel, by decide +kernel⟩
abbrev s_law : Stmt := top 23
theorem sc_law : FnScope ["script", "tape", "turn", "first", "sizes", "text", "rally", "sheet", "rows", "bad", "ranges", "index", "entry", "seen", "pairs", "many", "at", "row", "one", "other"] ["script"] (defScope s_law) := ⟨rfl, rfl, rfl, by decide +kernel, rfl, by decide +kernel, by decide +kernel⟩
def ch : Nat → Nat → Nat
  | _, 0 => 1
  | 0, _ + 1 => 0
  | n + 1, k + 1 => ch n k + ch n (k + 1)
theorem ch_zero (n : Nat) : ch n 0 = 1 := by cases n <;> rfl
theorem ch_out : ∀ {n k : Nat}, n < k → ch n k = 0
  | 0, k + 1, _ => rfl
  | n + 1, k + 1, h => by rw [ch, ch_out (show n < k by omega), ch_out (show n < k + 1 by omega)]
theorem ch_pos : ∀ {n k : Nat}, k ≤ n → 0 < ch n k
  | n, 0, _ => by rw [ch_zero]; exact Nat.one_pos
  | n + 1, k + 1, h => by
    rw [ch]
    have := ch_pos (show k ≤ n by omega)
    omega
theorem ch_self : ∀ n : Nat, ch n n = 1
  | 0 => rfl
  | n + 1 => by rw [ch, ch_self n, ch_out (Nat.lt_succ_self n)]
/-- (k + 1) C(n, k + 1) = (n - k) C(n, k) -/
theorem ch_mul : ∀ (n k : Nat), (k + 1) * ch n (k + 1) + k * ch n k = n * ch n k
  | 0, 0 => rfl
  | 0, k + 1 => by simp [ch]
  | n + 1, 0 => by
    have := ch_mul n 0
    simp only [ch, ch_zero] at *
    omega
  | n + 1, k + 1 => by
    have h1 := ch_mul n k
    have h2 := ch_mul n (k + 1)
    simp only [ch] at *
    have e1 : (k + 1 + 1) * (ch n (k + 1) + ch n (k + 1 + 1)) + (k + 1) * (ch n k + ch n (k + 1)) = ((k + 1 + 1) * ch n (k + 1 + 1) + (k + 1) * ch n (k + 1)) + ((k + 1) * ch n (k + 1) + k * ch n k) + (ch n k + ch n (k + 1)) := by
      simp only [Nat.add_mul, Nat.mul_add, Nat.one_mul]
      omega
    rw [e1, h2, h1, Nat.add_mul, Nat.mul_add, Nat.mul_add]
    omega
def fall (n : Int) : Nat → Int
  | 0 => 1
  | k + 1 => fall n k * (n - k) / ((k : Int) + 1)
theorem fall_ch (n : Nat) : ∀ k : Nat, k ≤ n → fall n k = ch n k
  | 0, _ => by rw [ch_zero]; rfl
  | k + 1, h => by
    rw [fall, fall_ch n k (by omega)]
    have e : (ch n k : Int) * ((n : Int) - k) = (ch n (k + 1) : Int) * ((k : Int) + 1) := by
      have z := ch_mul n k
      have z2 : (((k + 1) * ch n (k + 1) + k * ch n k : Nat) : Int) = ((n * ch n k : Nat) : Int) := by rw [z]
      rw [Int.natCast_add, Int.natCast_mul, Int.natCast_mul, Int.natCast_mul, Int.natCast_add] at z2
      rw [Int.mul_sub, Int.mul_comm _ (n : Int), Int.mul_comm _ (k : Int), Int.mul_comm _ ((k : Int) + 1)]
      have e1 : ((1 : Nat) : Int) = 1 := rfl
      rw [e1] at z2
      omega
    rw [e, Int.mul_ediv_cancel _ (by omega)]
def choicesM (n k : Int) : Int := if 0 ≤ k ∧ k ≤ n then fall n k.toNat else 0
theorem choicesM_nat (n k : Nat) : choicesM n k = ch n k := by
  unfold choicesM
  by_cases h : k ≤ n
  · rw [if_pos (by omega), Int.toNat_natCast, fall_ch n k h]
  · rw [if_neg (by omega), ch_out (by omega)]; rfl
theorem choicesM_neg {n k : Int} (h : n < 0 ∨ k < 0) : choicesM n k = 0 := by
  unfold choicesM
  rw [if_neg (by omega)]
theorem choicesM_lt {n k : Int} (h : n < k) : choicesM n k = 0 := by
  unfold choicesM
  rw [if_neg (by omega)]
theorem choicesM_nn (n k : Int) : 0 ≤ choicesM n k := by
  by_cases h : 0 ≤ k ∧ k ≤ n
  · have e : choicesM n k = choicesM (n.toNat : Int) (k.toNat : Int) := by rw [Int.toNat_of_nonneg (by omega), Int.toNat_of_nonneg h.1]
    rw [e, choicesM_nat]; omega
  · unfold choicesM; rw [if_neg h]; omega
theorem choicesM_zero {n : Int} (h : 0 ≤ n) : choicesM n 0 = 1 := by
  have e : choicesM n 0 = choicesM (n.toNat : Int) ((0 : Nat) : Int) := by rw [Int.toNat_of_nonneg h]; rfl
  rw [e, choicesM_nat, ch_zero]; rfl
theorem ch_le : ∀ n k : Nat, ch n k ≤ 2 ^ n
  | n, 0 => by rw [ch_zero]; exact Nat.one_le_two_pow
  | 0, k + 1 => Nat.zero_le _
  | n + 1, k + 1 => by
    have h1 := ch_le n k
    have h2 := ch_le n (k + 1)
    rw [ch, Nat.pow_succ]; omega
theorem choicesM_le {n k : Int} (h : n ≤ 300) : (choicesM n k).natAbs < 2 ^ 400 := by
  by_cases h0 : 0 ≤ k ∧ k ≤ n
  · have e : choicesM n k = choicesM (n.toNat : Int) (k.toNat : Int) := by rw [Int.toNat_of_nonneg (by omega), Int.toNat_of_nonneg h0.1]
    rw [e, choicesM_nat, Int.natAbs_natCast]
    refine Nat.lt_of_le_of_lt (ch_le _ _) ?_
    exact Nat.pow_lt_pow_right (by decide) (by omega)
  · unfold choicesM
    rw [if_neg h0]
    exact Nat.two_pow_pos 400
/-- Pascal -/
theorem choicesM_succ {n k : Int} (hn : 0 ≤ n) : choicesM (n + 1) (k + 1) = choicesM n k + choicesM n (k + 1) := by
  by_cases hk : 0 ≤ k
  · obtain ⟨a, rfl⟩ := Int.eq_ofNat_of_zero_le hn
    obtain ⟨b, rfl⟩ := Int.eq_ofNat_of_zero_le hk
    have e1 : ((a : Int) + 1) = ((a + 1 : Nat) : Int) := by omega
    have e2 : ((b : Int) + 1) = ((b + 1 : Nat) : Int) := by omega
    rw [e1, e2, choicesM_nat, choicesM_nat, choicesM_nat, ch]
    omega
  · by_cases h1 : k = -1
    · subst h1
      rw [choicesM_neg (.inr (show (-1 : Int) < 0 by omega)), show (-1 : Int) + 1 = 0 from rfl, choicesM_zero hn, choicesM_zero (by omega)]
      rfl
    · rw [choicesM_neg (.inr (show k + 1 < 0 by omega)), choicesM_neg (.inr (show k < 0 by omega)), choicesM_neg (.inr (show k + 1 < 0 by omega))]; rfl

def runsM (p k : Int) : Int := if k = 0 then (if p = 0 then 1 else 0) else choicesM (p - 1) (k - 1)
theorem runs_mul {p k r l : Int} (h : p ≤ 300) (h' : r ≤ 300) : CMulW (runsM p k) (runsM r l) := by
  have z : ∀ {p k : Int}, p ≤ 300 → (runsM p k).natAbs < 2 ^ 400 := fun {p k} h => by
    unfold runsM
    by_cases h0 : k = 0
    · rw [if_pos h0]
      by_cases h1 : p = 0
      · rw [if_pos h1]; exact Nat.lt_of_lt_of_le (show 1 < 2 by decide) (Nat.le_pow (by decide))
      · rw [if_neg h1]; exact Nat.two_pow_pos 400
    · rw [if_neg h0]; exact choicesM_le (by omega)
  exact wide_mul (z h) (z h') (by decide) (by decide) (by decide)
def rowsM (x y n : Int) : Int := runsM (x + 1) (n / 2 + 1) * runsM y ((n + 1) / 2)
def rowsF (f : Bool) (a b n : Int) : Int := if f then rowsM a b n else rowsM b a n
def ccM (same : Bool) (own far : Int) : List Int := if same then (if far = 0 then [0] else (irg 1 (min own far + 1)).map fun t => 2 * t) else (irg 0 (min own (far - 1) + 1)).map fun t => 2 * t + 1
def ccF (s : Bool) (x y : Int) (l : Bool) : List Int := if s then ccM (l == s) x y else ccM (l == s) y x
theorem pasc {n k : Int} (h : 1 ≤ n) : choicesM n k = choicesM (n - 1) k + choicesM (n - 1) (k - 1) := by
  have := choicesM_succ (n := n - 1) (k := k - 1) (by omega)
  rw [Int.sub_add_cancel, Int.sub_add_cancel] at this
  rw [this]; omega
theorem runs_step {p k : Int} (hp : 1 ≤ p) (hk : 1 ≤ k) : runsM p k = runsM (p - 1) k + runsM (p - 1) (k - 1) := by
  unfold runsM
  rw [if_neg (by omega), if_neg (by omega)]
  by_cases h : k - 1 = 0
  · rw [if_pos h]
    by_cases h1 : p - 1 = 0
    · rw [if_pos h1, h1, h]; rfl
    · rw [if_neg h1, h, choicesM_zero (by omega), choicesM_zero (by omega)]; rfl
  · rw [if_neg h]
    by_cases h1 : p - 1 = 0
    · rw [h1, choicesM_lt (by omega), choicesM_lt (by omega), choicesM_lt (by omega)]; rfl
    · exact pasc (by omega)
/-- a row's last serve -/
theorem rows_even {x y n : Int} (hx : 1 ≤ x) (hn : 1 ≤ n) (h : n % 2 = 0) : rowsM x y n = rowsM (x - 1) y n + rowsM (x - 1) y (n - 1) := by
  unfold rowsM
  have e1 : (n - 1) / 2 + 1 = n / 2 := by omega
  have e2 : (n - 1 + 1) / 2 = (n + 1) / 2 := by omega
  have e3 := runs_step (p := x + 1) (k := n / 2 + 1) (by omega) (by omega)
  rw [e1, e2, e3, Int.add_mul, show x + 1 - 1 = x - 1 + 1 by omega, show n / 2 + 1 - 1 = n / 2 by omega]
theorem rows_odd {x y n : Int} (hy : 1 ≤ y) (hn : 0 ≤ n) (h : n % 2 = 1) : rowsM x y n = rowsM x (y - 1) n + rowsM x (y - 1) (n - 1) := by
  unfold rowsM
  have e1 : (n - 1) / 2 + 1 = n / 2 + 1 := by omega
  have e2 : (n - 1 + 1) / 2 = (n + 1) / 2 - 1 := by omega
  have e3 := runs_step (p := y) (k := (n + 1) / 2) hy (by omega)
  rw [e1, e2, e3, Int.mul_add]
theorem rows_zero {x y : Int} (hx : 0 ≤ x) : rowsM x y 0 = if y = 0 then 1 else 0 := by
  unfold rowsM
  show runsM (x + 1) 1 * runsM y 0 = _
  unfold runsM
  rw [if_neg (by decide), if_pos rfl, show (1 : Int) - 1 = 0 from rfl, choicesM_zero (by omega), Int.one_mul]
/-- all rows, in twos -/
def sumE (x y : Int) : Nat → Int
  | 0 => rowsM x y 0
  | m + 1 => sumE x y m + rowsM x y (2 * m + 1) + rowsM x y (2 * m + 2)
theorem sumE_list (x y : Int) : ∀ m : Nat, ((irg 0 (2 * m + 1)).map (rowsM x y)).sum = sumE x y m
  | 0 => by
    show ((irg 0 (2 * 0 + 1)).map (rowsM x y)).sum = rowsM x y 0
    rw [show irg 0 (2 * 0 + 1) = [0] from rfl]
    show rowsM x y 0 + 0 = _
    omega
  | m + 1 => by
    rw [show ((2 : Int) * ((m + 1 : Nat) : Int) + 1) = 2 * (m : Int) + 1 + 1 + 1 by omega, irg_snoc (by omega), irg_snoc (by omega), List.map_append, List.map_append, List.sum_append, List.sum_append, sumE_list x y m]
    show _ + (rowsM x y (2 * m + 1) + 0) + (rowsM x y (2 * m + 1 + 1) + 0) = sumE x y m + rowsM x y (2 * m + 1) + rowsM x y (2 * m + 2)
    rw [show (2 * (m : Int) + 1 + 1) = 2 * m + 2 by omega]; omega
theorem sumE_step {x y : Int} (hx : 1 ≤ x) (hy : 1 ≤ y) : ∀ m : Nat, sumE x y m = sumE (x - 1) y m + sumE x (y - 1) m - rowsM x (y - 1) (2 * m)
  | 0 => by
    show rowsM x y 0 = rowsM (x - 1) y 0 + rowsM x (y - 1) 0 - rowsM x (y - 1) 0
    rw [rows_zero (by omega), rows_zero (by omega), if_neg (by omega)]; omega
  | m + 1 => by
    have h1 := rows_odd (x := x) (y := y) (n := 2 * m + 1) hy (by omega) (by omega)
    have h2 := rows_even (x := x) (y := y) (n := 2 * m + 2) hx (by omega) (by omega)
    have h3 := sumE_step hx hy m
    rw [show 2 * (m : Int) + 1 - 1 = 2 * m by omega] at h1
    rw [show 2 * (m : Int) + 2 - 1 = 2 * m + 1 by omega] at h2
    rw [sumE, sumE, sumE, show (2 : Int) * ((m + 1 : Nat) : Int) = 2 * m + 2 by omega]
    omega
theorem rows_far {x y n : Int} (h : y < (n + 1) / 2) (h0 : 0 ≤ n) (hy : 0 ≤ y) : rowsM x y n = 0 := by
  unfold rowsM
  have : runsM y ((n + 1) / 2) = 0 := by
    unfold runsM
    rw [if_neg (by omega)]
    exact choicesM_lt (by omega)
  rw [this, Int.mul_zero]
theorem rows_own {x y n : Int} (h : x < n / 2) (h0 : 0 ≤ n) (hx : 0 ≤ x) : rowsM x y n = 0 := by
  unfold rowsM
  have : runsM (x + 1) (n / 2 + 1) = 0 := by
    unfold runsM
    rw [if_neg (by omega)]
    exact choicesM_lt (by omega)
  rw [this, Int.zero_mul]
theorem sumE_x0 {y : Int} (hy : 1 ≤ y) : ∀ m : Nat, 1 ≤ m → sumE 0 y m = 1
  | 0, h => by omega
  | 1, _ => by
    show rowsM 0 y 0 + rowsM 0 y 1 + rowsM 0 y 2 = 1
    rw [rows_zero (by omega), if_neg (by omega), rows_own (n := 2) (by decide) (by decide) (by decide)]
    unfold rowsM runsM
    rw [if_neg (by decide), if_neg (by decide)]
    rw [show (0 : Int) + 1 - 1 = 0 from rfl, show (1 : Int) / 2 + 1 - 1 = 0 from rfl, show ((1 : Int) + 1) / 2 - 1 = 0 from rfl, choicesM_zero (by omega), choicesM_zero (by omega)]; rfl
  | m + 2, _ => by
    rw [sumE, sumE_x0 hy (m + 1) (by omega), rows_own (by omega) (by omega) (by omega), rows_own (by omega) (by omega) (by omega)]; rfl
theorem sumE_y0 {x : Int} (hx : 0 ≤ x) : ∀ m : Nat, sumE x 0 m = 1
  | 0 => by show rowsM x 0 0 = 1; rw [rows_zero hx, if_pos rfl]
  | m + 1 => by rw [sumE, sumE_y0 hx m, rows_far (by omega) (by omega) (by omega), rows_far (by omega) (by omega) (by omega)]; rfl
theorem sumE_ch : ∀ (s x y : Nat), x + y = s → y ≤ 60 → 1 ≤ x + y → sumE x y 60 = ch (x + y) x
  | s, 0, y, _, h, h1 => by rw [show ((0 : Nat) : Int) = 0 from rfl, sumE_x0 (by omega) 60 (by decide), ch_zero]; rfl
  | s, x + 1, 0, _, h, h1 => by rw [show ((0 : Nat) : Int) = 0 from rfl, sumE_y0 (by omega), Nat.add_zero, ch_self]; rfl
  | 0, x + 1, y + 1, e, h, h1 => by omega
  | s + 1, x + 1, y + 1, e, h, h1 => by
    have q := sumE_step (x := ((x + 1 : Nat) : Int)) (y := ((y + 1 : Nat) : Int)) (by omega) (by omega) 60
    rw [show ((x + 1 : Nat) : Int) - 1 = (x : Int) by omega, show ((y + 1 : Nat) : Int) - 1 = (y : Int) by omega] at q
    rw [rows_far (x := ((x + 1 : Nat) : Int)) (y := (y : Int)) (by omega) (by omega) (by omega)] at q
    have q1 := sumE_ch s x (y + 1) (by omega) h (by omega)
    have q2 := sumE_ch s (x + 1) y (by omega) (by omega) (by omega)
    rw [q1, q2] at q
    rw [q, show x + 1 + (y + 1) = (x + (y + 1)) + 1 by omega, ch, show x + 1 + y = x + (y + 1) by omega]
    omega
theorem ch_sym : ∀ (s a b : Nat), a + b = s → ch (a + b) a = ch (a + b) b
  | s, 0, b, _ => by rw [ch_zero, Nat.zero_add, ch_self]
  | s, a + 1, 0, _ => by rw [ch_zero, Nat.add_zero, ch_self]
  | 0, a + 1, b + 1, e => by omega
  | s + 1, a + 1, b + 1, e => by
    have q1 := ch_sym s a (b + 1) (by omega)
    have q2 := ch_sym s (a + 1) b (by omega)
    rw [show a + 1 + (b + 1) = (a + (b + 1)) + 1 by omega, ch, ch, q1, show a + (b + 1) = a + 1 + b by omega, q2]
    omega
theorem rows_sum {f : Bool} {a b : Int} (ha : 1 ≤ a ∧ a ≤ 60) (hb : 1 ≤ b ∧ b ≤ 60) : ((irg 0 121).map (rowsF f a b)).sum = choicesM (a + b) a := by
  obtain ⟨x, rfl⟩ := Int.eq_ofNat_of_zero_le (show 0 ≤ a by omega)
  obtain ⟨y, rfl⟩ := Int.eq_ofNat_of_zero_le (show 0 ≤ b by omega)
  rw [show ((x : Int) + (y : Int)) = ((x + y : Nat) : Int) by omega, choicesM_nat]
  cases f with
  | true =>
    show ((irg 0 (2 * (60 : Nat) + 1)).map (rowsM x y)).sum = _
    rw [sumE_list, sumE_ch _ x y rfl (by omega) (by omega)]
  | false =>
    show ((irg 0 (2 * (60 : Nat) + 1)).map (rowsM y x)).sum = _
    rw [sumE_list, sumE_ch _ y x rfl (by omega) (by omega), ch_sym _ y x rfl, Nat.add_comm]
theorem choicesM_pos {n k : Int} (h : 0 ≤ k ∧ k ≤ n) : 0 < choicesM n k := by
  have e : choicesM n k = choicesM (n.toNat : Int) (k.toNat : Int) := by rw [Int.toNat_of_nonneg (by omega), Int.toNat_of_nonneg h.1]
  rw [e, choicesM_nat]
  have := ch_pos (n := n.toNat) (k := k.toNat) (by omega)
  omega
theorem rows_pos {x y n : Int} (hx : 1 ≤ x) (hy : 1 ≤ y) (hn : 0 ≤ n) : decide (0 < rowsM x y n) = decide (1 ≤ n ∧ n / 2 ≤ x ∧ (n + 1) / 2 ≤ y) := by
  apply decide_eq_decide.mpr
  constructor
  · intro h
    refine ⟨?_, ?_, ?_⟩
    · refine Int.not_lt.mp fun z => ?_
      rw [show n = 0 by omega, rows_zero (by omega), if_neg (by omega)] at h
      omega
    · refine Int.not_lt.mp fun z => ?_
      rw [rows_own z hn (by omega)] at h; omega
    · refine Int.not_lt.mp fun z => ?_
      rw [rows_far z hn (by omega)] at h; omega
  · rintro ⟨h1, h2, h3⟩
    unfold rowsM runsM
    rw [if_neg (by omega), if_neg (by omega)]
    exact Int.mul_pos (choicesM_pos (by omega)) (choicesM_pos (by omega))
theorem filt_even : ∀ M : Fin 61, (irg 0 121).filter (fun n : Int => decide (1 ≤ n ∧ n / 2 ≤ (M.val : Int)) && (decide (n % 2 = 0) == true)) = irgC 2 2 M.val := by decide +kernel
theorem filt_odd : ∀ M : Fin 61, (irg 0 121).filter (fun n : Int => decide (1 ≤ n ∧ (n + 1) / 2 ≤ (M.val : Int)) && (decide (n % 2 = 0) == false)) = irgC 1 2 M.val := by decide +kernel
/-- where rows stand: the possible changes -/
theorem part_eq {e : Bool} {x y : Int} (hx : 1 ≤ x ∧ x ≤ 60) (hy : 1 ≤ y ∧ y ≤ 60) : ∃ (c : Int) (M : Nat), (c = 1 ∨ c = 2) ∧ M < 60 ∧ ccM e x y = irgC c 2 (M + 1) ∧
    (irg 0 121).filter (fun n => decide (0 < rowsM x y n) && (decide (n % 2 = 0) == e)) = irgC c 2 (M + 1) := by
  cases e with
  | true =>
    refine ⟨2, (min x y - 1).toNat, .inr rfl, by omega, ?_, ?_⟩
    · rw [ccM, if_pos rfl, if_neg (by omega), irg_irgC, show (min x y + 1 - 1).toNat = (min x y - 1).toNat + 1 by omega]
      have := irgC_map (lo := 1) (c := 1) (a := 0) (b := 2) (n := (min x y - 1).toNat + 1) (by omega)
      rw [show (0 : Int) + 2 * 1 = 2 from rfl, show (2 : Int) * 1 = 2 from rfl] at this
      rw [← this]
      exact List.map_congr_left fun t _ => by omega
    · rw [show (min x y - 1).toNat + 1 = (min x y).toNat by omega]
      rw [← filt_even ⟨(min x y).toNat, by omega⟩]
      refine List.filter_congr fun n hn => ?_
      obtain ⟨h1, h2⟩ := mem_irg.mp hn
      rw [rows_pos hx.1 hy.1 h1]
      by_cases ev : n % 2 = 0
      · rw [decide_eq_true ev]
        show (decide _ && true) = (decide _ && true)
        rw [Bool.and_true, Bool.and_true]
        apply decide_eq_decide.mpr
        show _ ↔ 1 ≤ n ∧ n / 2 ≤ ((min x y).toNat : Int)
        omega
      · rw [decide_eq_false ev]
        show (_ && false) = (_ && false)
        rw [Bool.and_false, Bool.and_false]
  | false =>
    refine ⟨1, (min x (y - 1)).toNat, .inl rfl, by omega, ?_, ?_⟩
    · rw [ccM, if_neg (by decide), irg_irgC, show (min x (y - 1) + 1 - 0).toNat = (min x (y - 1)).toNat + 1 by omega]
      have := irgC_map (lo := 0) (c := 1) (a := 1) (b := 2) (n := (min x (y - 1)).toNat + 1) (by omega)
      rw [show (1 : Int) + 2 * 0 = 1 from rfl, show (2 : Int) * 1 = 2 from rfl] at this
      rw [← this]
      exact List.map_congr_left fun t _ => by omega
    · rw [← filt_odd ⟨(min x (y - 1)).toNat + 1, by omega⟩]
      refine List.filter_congr fun n hn => ?_
      obtain ⟨h1, h2⟩ := mem_irg.mp hn
      rw [rows_pos hx.1 hy.1 h1]
      by_cases ev : n % 2 = 0
      · rw [decide_eq_true ev]
        show (_ && (true == false)) = (_ && (true == false))
        rw [show (true == false) = false from rfl, Bool.and_false, Bool.and_false]
      · rw [decide_eq_false ev]
        show (decide _ && true) = (decide _ && true)
        rw [Bool.and_true, Bool.and_true]
        apply decide_eq_decide.mpr
        show _ ↔ 1 ≤ n ∧ (n + 1) / 2 ≤ (((min x (y - 1)).toNat + 1 : Nat) : Int)
        omega
theorem dec_dec {b c : Bool} (h : decide (b = c) = true) : b = c := of_decide_eq_true h
theorem beq_dec (b c : Bool) : (b == c) = decide (b = c) := by cases b <;> cases c <;> rfl
theorem won_step {f : Bool} {a b n : Int} (h : 1 ≤ a ∧ 1 ≤ b) (hn : 1 ≤ n) (hw : decide (decide (n % 2 = 0) = decide (sd f = ("A" : Str))) = true) : rowsF f a b n = rowsF f (a - 1) b n + rowsF f (a - 1) b (n - 1) := by
  have e := of_decide_eq_true hw
  rw [dsdA] at e
  cases f with
  | true => exact rows_even h.1 hn (of_decide_eq_true e)
  | false => exact rows_odd h.1 (by omega) (by have := of_decide_eq_false e; omega)
theorem lost_step {f : Bool} {a b n : Int} (h : 1 ≤ a ∧ 1 ≤ b) (hn : 1 ≤ n) (hw : decide (decide (n % 2 = 0) = decide (sd f = ("A" : Str))) = false) : rowsF f a b n = rowsF f a (b - 1) n + rowsF f a (b - 1) (n - 1) := by
  have e := of_decide_eq_false hw
  rw [dsdA] at e
  cases f with
  | true => exact rows_odd h.2 (by omega) (by have : ¬ n % 2 = 0 := fun z => e (decide_eq_true z); omega)
  | false => exact rows_even h.2 hn (Decidable.byContradiction fun z => e (decide_eq_false z))
theorem rowsF_zero {f : Bool} {a b : Int} (h : 1 ≤ a ∧ 1 ≤ b) : rowsF f a b 0 = 0 := by
  cases f with
  | true => show rowsM a b 0 = 0; rw [rows_zero (by omega), if_neg (by omega)]
  | false => show rowsM b a 0 = 0; rw [rows_zero (by omega), if_neg (by omega)]
theorem ab_get {i : Nat} {d : D} (h : [D.str "A", D.str "B"][i]? = some d) : ∃ l : Bool, d = .str (sd l) := by
  match i, h with
  | 0, h => cases h; exact ⟨true, rfl⟩
  | 1, h => cases h; exact ⟨false, rfl⟩
theorem part_F {f l : Bool} {a b : Int} (ha : 1 ≤ a ∧ a ≤ 60) (hb : 1 ≤ b ∧ b ≤ 60) : ∃ (c : Int) (M : Nat), (c = 1 ∨ c = 2) ∧ M < 60 ∧ ccF f a b l = irgC c 2 (M + 1) ∧
    (irg 0 121).filter (fun n => decide (0 < rowsF f a b n) && (decide (n % 2 = 0) == decide (sd l = sd f))) = irgC c 2 (M + 1) := by
  rw [dsd]
  cases f with
  | true => exact part_eq ha hb
  | false => exact part_eq hb ha

/-- all texts of a length -/
def allW : Nat → List (List Bool)
  | 0 => [[]]
  | n + 1 => (allW n).flatMap fun w => [w ++ [true], w ++ [false]]
theorem allW_len : ∀ n : Nat, ∀ w ∈ allW n, w.length = n
  | 0, w, h => by rw [allW, List.mem_singleton] at h; rw [h]; rfl
  | n + 1, w, h => by
    rw [allW, List.mem_flatMap] at h
    obtain ⟨u, hu, hw⟩ := h
    have := allW_len n u hu
    simp only [List.mem_cons, List.not_mem_nil, or_false] at hw
    rcases hw with rfl | rfl <;> rw [List.length_append] <;> simp [this]
theorem allW_size : ∀ n : Nat, (allW n).length = 2 ^ n
  | 0 => rfl
  | n + 1 => by
    rw [allW, List.length_flatMap]
    have : ∀ l : List (List Bool), (l.map fun w => ([w ++ [true], w ++ [false]] : List (List Bool)).length).sum = 2 * l.length := fun l => by
      induction l with
      | nil => rfl
      | cons x l ih => rw [List.map_cons, List.sum_cons, ih, List.length_cons]; simp; omega
    rw [this, allW_size n, Nat.pow_succ]; omega
/-- the changes so far -/
def chg (m : S5) : Int := m.x + m.y
/-- parity tells the server -/
theorem par_next {f : Bool} {m : S5} (b : Bool) (h : chg m % 2 = 0 ↔ m.s = f) : chg (m.next b) % 2 = 0 ↔ (m.next b).s = f := by
  obtain ⟨a, b', s, x, y⟩ := m
  unfold chg at h ⊢
  cases b <;> cases s <;> cases f <;> simp [S5.next] at h ⊢ <;> omega
theorem stM_par (f : Bool) (w : List Bool) : chg (stM f w) % 2 = 0 ↔ (stM f w).s = f := by
  have h : ∀ (w : List Bool) (m : S5), (chg m % 2 = 0 ↔ m.s = f) → (chg (w.foldl S5.next m) % 2 = 0 ↔ (w.foldl S5.next m).s = f) := by
    intro w
    induction w with
    | nil => intro m h; exact h
    | cons b w ih => intro m h; exact ih _ (par_next b h)
  exact h w _ ⟨fun _ => rfl, fun _ => rfl⟩
def oneW (m : S5) (a n : Int) : Nat := if m.a = a ∧ chg m = n then 1 else 0
theorem one_next {f : Bool} {m : S5} {a n : Int} (h : chg m % 2 = 0 ↔ m.s = f) : oneW (m.next true) a n + oneW (m.next false) a n =
    if (n % 2 = 0 ↔ f = true) then oneW m (a - 1) n + oneW m (a - 1) (n - 1) else oneW m a n + oneW m a (n - 1) := by
  obtain ⟨ma, mb, s, x, y⟩ := m
  unfold chg at h
  unfold oneW chg
  by_cases hn : n % 2 = 0
  · cases f <;> cases s <;> simp [S5.next, hn] at h ⊢ <;> (repeat' split) <;> omega
  · cases f <;> cases s <;> simp [S5.next, hn] at h ⊢ <;> (repeat' split) <;> omega
/-- how many texts of the list have a points of A and n changes -/
def cW (f : Bool) (a n : Int) (L : List (List Bool)) : Nat := (L.map fun w => oneW (stM f w) a n).sum
theorem cW_next (f : Bool) (a n : Int) : ∀ L : List (List Bool), cW f a n (L.flatMap fun w => [w ++ [true], w ++ [false]]) =
    if (n % 2 = 0 ↔ f = true) then cW f (a - 1) n L + cW f (a - 1) (n - 1) L else cW f a n L + cW f a (n - 1) L
  | [] => by split <;> rfl
  | w :: L => by
    have ih := cW_next f a n L
    have h := one_next (a := a) (n := n) (stM_par f w)
    unfold cW at ih ⊢
    rw [List.flatMap_cons, List.map_append, List.sum_append, ih]
    show oneW (stM f (w ++ [true])) a n + (oneW (stM f (w ++ [false])) a n + 0) + _ = _
    rw [stM_snoc, stM_snoc]
    simp only [List.map_cons, List.sum_cons]
    split
    · rename_i e
      rw [if_pos e] at h
      omega
    · rename_i e
      rw [if_neg e] at h
      omega
theorem cW_neg (f : Bool) {a n : Int} (h : a < 0 ∨ n < 0) (L : List (List Bool)) : cW f a n L = 0 := by
  unfold cW
  induction L with
  | nil => rfl
  | cons w L ih =>
    rw [List.map_cons, List.sum_cons, ih]
    obtain ⟨h1, h2, h3, h4⟩ := stM_nn f w
    unfold oneW chg
    rw [if_neg (by omega)]
theorem cW_over (f : Bool) {a n : Int} (k : Nat) (h : k < a) : cW f a n (allW k) = 0 := by
  have key : ∀ (L : List (List Bool)), (∀ w ∈ L, (stM f w).a < a) → cW f a n L = 0 := fun L => by
    unfold cW
    induction L with
    | nil => intro _; rfl
    | cons w L ih =>
      intro hw
      rw [List.map_cons, List.sum_cons, ih (fun w h => hw w (List.mem_cons_of_mem _ h))]
      have := hw w List.mem_cons_self
      unfold oneW
      rw [if_neg (by omega)]
  refine key _ fun w hw => ?_
  have e := allW_len k w hw
  have : (stM f w).a ≤ w.length := by
    have hh : ∀ (w : List Bool) (m : S5), (w.foldl S5.next m).a ≤ m.a + w.length := by
      intro w
      induction w with
      | nil => intro m; show m.a ≤ m.a + ((0 : Nat) : Int); omega
      | cons b w ih =>
        intro m
        have q := ih (m.next b)
        have : (m.next b).a ≤ m.a + 1 := by
          obtain ⟨ma, mb, s, x, y⟩ := m
          cases b <;> simp [S5.next] <;> omega
        rw [List.length_cons]
        show (w.foldl S5.next (m.next b)).a ≤ _
        omega
    have := hh w ⟨0, 0, f, 0, 0⟩
    show (w.foldl S5.next ⟨0, 0, f, 0, 0⟩).a ≤ _
    simp only at this
    omega
  omega
/-- the rows with a of A among all texts of length k -/
theorem rowsF_step {f : Bool} {a b n : Int} (ha : 0 ≤ a) (hb : 0 ≤ b) (hab : 1 ≤ a + b) (hn : 0 ≤ n) : rowsF f a b n =
    if (n % 2 = 0 ↔ f = true) then (if 1 ≤ a then rowsF f (a - 1) b n + (if 1 ≤ n then rowsF f (a - 1) b (n - 1) else 0) else 0) else (if 1 ≤ b then rowsF f a (b - 1) n + (if 1 ≤ n then rowsF f a (b - 1) (n - 1) else 0) else 0) := by
  have z0 : ∀ {x y : Int}, 1 ≤ y → 0 ≤ x → rowsM x y 0 = 0 := fun hy hx => by rw [rows_zero hx, if_neg (by omega)]
  by_cases hn2 : n % 2 = 0
  · cases f with
    | true =>
      rw [if_pos ⟨fun _ => rfl, fun _ => hn2⟩]
      show rowsM a b n = _
      by_cases h0 : 1 ≤ n
      · by_cases h1 : 1 ≤ a
        · rw [if_pos h1, if_pos h0]; exact rows_even h1 h0 hn2
        · rw [if_neg h1, rows_own (by omega) hn ha]
      · have e : n = 0 := by omega
        subst e
        rw [if_neg h0]
        by_cases h1 : 1 ≤ a
        · rw [if_pos h1]
          show _ = rowsM (a - 1) b 0 + 0
          rw [rows_zero ha, rows_zero (by omega)]; omega
        · rw [if_neg h1, z0 (by omega) ha]
    | false =>
      rw [if_neg (fun z => Bool.noConfusion (z.mp hn2))]
      show rowsM b a n = _
      by_cases h0 : 1 ≤ n
      · by_cases h1 : 1 ≤ b
        · rw [if_pos h1, if_pos h0]; exact rows_even h1 h0 hn2
        · rw [if_neg h1, rows_own (by omega) hn hb]
      · have e : n = 0 := by omega
        subst e
        rw [if_neg h0]
        by_cases h1 : 1 ≤ b
        · rw [if_pos h1]
          show _ = rowsM (b - 1) a 0 + 0
          rw [rows_zero hb, rows_zero (by omega)]; omega
        · rw [if_neg h1, z0 (by omega) hb]
  · have h0 : 1 ≤ n := by omega
    cases f with
    | true =>
      rw [if_neg (fun z => hn2 (z.mpr rfl))]
      show rowsM a b n = _
      by_cases h1 : 1 ≤ b
      · rw [if_pos h1, if_pos h0]; exact rows_odd h1 hn (by omega)
      · rw [if_neg h1, rows_far (by omega) hn hb]
    | false =>
      rw [if_pos ⟨fun z => absurd z hn2, fun z => Bool.noConfusion z⟩]
      show rowsM b a n = _
      by_cases h1 : 1 ≤ a
      · rw [if_pos h1, if_pos h0]; exact rows_odd h1 hn (by omega)
      · rw [if_neg h1, rows_far (by omega) hn ha]
theorem cW_rows (f : Bool) : ∀ (k : Nat) (a n : Int), 0 ≤ a → a ≤ k → 0 ≤ n → (cW f a n (allW k) : Int) = rowsF f a (k - a) n
  | 0, a, n, h0, h1, hn => by
    have e : a = 0 := by omega
    subst e
    show ((oneW (stM f []) 0 n + 0 : Nat) : Int) = rowsF f 0 0 n
    have e1 : rowsF f 0 0 n = rowsM 0 0 n := by cases f <;> rfl
    rw [e1]
    unfold oneW
    show (((if (0 : Int) = 0 ∧ (0 : Int) + 0 = n then 1 else 0) + 0 : Nat) : Int) = _
    by_cases hz : n = 0
    · subst hz; rw [if_pos ⟨rfl, rfl⟩, rows_zero (by decide), if_pos rfl]; rfl
    · rw [if_neg (by omega), rows_far (by omega) hn (by decide)]; rfl
  | k + 1, a, n, h0, h1, hn => by
    rw [allW, cW_next, rowsF_step h0 (by omega) (by omega) hn]
    by_cases hp : (n % 2 = 0 ↔ f = true)
    · rw [if_pos hp, if_pos hp]
      by_cases ha : 1 ≤ a
      · rw [if_pos ha, Int.natCast_add, cW_rows f k (a - 1) n (by omega) (by omega) hn, show (((k + 1 : Nat) : Int) - a) = (k : Int) - (a - 1) by omega]
        by_cases h : 1 ≤ n
        · rw [if_pos h, cW_rows f k (a - 1) (n - 1) (by omega) (by omega) (by omega)]
        · rw [if_neg h, cW_neg f (.inr (by omega))]; rfl
      · rw [if_neg ha, cW_neg f (.inl (by omega)), cW_neg f (.inl (by omega))]; rfl
    · rw [if_neg hp, if_neg hp]
      by_cases hb : 1 ≤ ((k + 1 : Nat) : Int) - a
      · rw [if_pos hb, Int.natCast_add, cW_rows f k a n (by omega) (by omega) hn, show (((k + 1 : Nat) : Int) - a - 1) = (k : Int) - a by omega]
        by_cases h : 1 ≤ n
        · rw [if_pos h, cW_rows f k a (n - 1) (by omega) (by omega) (by omega)]
        · rw [if_neg h, cW_neg f (.inr (by omega))]; rfl
      · rw [if_neg hb, cW_over f k (by omega), cW_over f k (by omega)]; rfl
/-! the law's own tables -/
def TblOk (f : Bool) (L : List (List Bool)) (kvs : List (List Key × D)) : Prop := kvs.length ≤ L.length ∧ ∀ a n : Int, valD kvs [.inl a, .inl n] = if cW f a n L = 0 then none else some (.int (cW f a n L : Nat))
def hasW (f : Bool) (a : Int) (s : Bool) (n : Int) (L : List (List Bool)) : Bool := L.any fun w => decide ((stM f w).a = a ∧ (stM f w).s = s ∧ chg (stM f w) = n)
def EndOk (f : Bool) (L : List (List Bool)) (kvs : List (List Key × D)) : Prop := kvs.length ≤ L.length ∧ ∀ (a : Int) (s : Bool) (n : Int), valD kvs [.inl a, .inr (sd s), .inl n] = if hasW f a s n L then some (.bl true) else none
theorem TblOk.nil (f : Bool) : TblOk f [] [] := ⟨Nat.le_refl _, fun a n => rfl⟩
theorem EndOk.nil (f : Bool) : EndOk f [] [] := ⟨Nat.le_refl _, fun a s n => rfl⟩
theorem cW_snoc {f : Bool} {a n : Int} {L : List (List Bool)} {w : List Bool} : cW f a n (L ++ [w]) = cW f a n L + oneW (stM f w) a n := by
  unfold cW
  rw [List.map_append, List.sum_append]
  show _ + (oneW (stM f w) a n + 0) = _
  omega
theorem TblOk.put {f : Bool} {L : List (List Bool)} {kvs : List (List Key × D)} {w : List Bool} (h : TblOk f L kvs) :
    TblOk f (L ++ [w]) (putD kvs [.inl (stM f w).a, .inl ((stM f w).x + (stM f w).y)] (.int ((cW f (stM f w).a ((stM f w).x + (stM f w).y) L : Nat) + 1))) := by
  refine ⟨?_, fun a n => ?_⟩
  · have := putD_len kvs ([.inl (stM f w).a, .inl ((stM f w).x + (stM f w).y)] : List Key) (.int ((cW f (stM f w).a ((stM f w).x + (stM f w).y) L : Nat) + 1))
    have := h.1
    rw [List.length_append, List.length_singleton]; omega
  · rw [valD_put, cW_snoc, h.2 a n]
    unfold oneW chg
    by_cases e : (stM f w).a = a ∧ (stM f w).x + (stM f w).y = n
    · obtain ⟨e1, e2⟩ := e
      subst e1 e2
      rw [if_pos rfl, if_pos (show (stM f w).a = (stM f w).a ∧ (stM f w).x + (stM f w).y = (stM f w).x + (stM f w).y from ⟨rfl, rfl⟩), if_neg (by omega)]
      rfl
    · rw [if_neg (fun z => e ?_), if_neg e, Nat.add_zero]
      injection z with z1 z2
      injection z1 with z1
      injection z2 with z2
      injection z2 with z2
      exact ⟨z1.symm, z2.symm⟩
theorem EndOk.put {f : Bool} {L : List (List Bool)} {kvs : List (List Key × D)} {w : List Bool} (h : EndOk f L kvs) :
    EndOk f (L ++ [w]) (putD kvs [.inl (stM f w).a, .inr (sd (stM f w).s), .inl ((stM f w).x + (stM f w).y)] (.bl true)) := by
  refine ⟨?_, fun a s n => ?_⟩
  · have := putD_len kvs ([.inl (stM f w).a, .inr (sd (stM f w).s), .inl ((stM f w).x + (stM f w).y)] : List Key) (.bl true)
    have := h.1
    rw [List.length_append, List.length_singleton]; omega
  · rw [valD_put, h.2 a s n]
    unfold hasW chg
    rw [List.any_append, List.any_cons, List.any_nil, Bool.or_false]
    by_cases e : (stM f w).a = a ∧ (stM f w).s = s ∧ (stM f w).x + (stM f w).y = n
    · obtain ⟨e1, e2, e3⟩ := e
      subst e1 e2 e3
      rw [if_pos rfl, decide_eq_true ⟨rfl, rfl, rfl⟩, Bool.or_true]; rfl
    · rw [if_neg (fun z => e ?_), decide_eq_false e, Bool.or_false]
      injection z with z1 z2
      injection z1 with z1
      injection z2 with z2 z3
      injection z2 with z2
      injection z3 with z3
      injection z3 with z3
      exact ⟨z1.symm, (sd_inj z2).symm, z3.symm⟩
theorem cW_pos {f : Bool} {a n : Int} : ∀ {L : List (List Bool)}, 0 < cW f a n L ↔ ∃ w ∈ L, (stM f w).a = a ∧ chg (stM f w) = n
  | [] => ⟨fun h => absurd h (Nat.lt_irrefl 0), fun ⟨w, h, _⟩ => nomatch h⟩
  | w :: L => by
    have ih := cW_pos (f := f) (a := a) (n := n) (L := L)
    have e : cW f a n (w :: L) = oneW (stM f w) a n + cW f a n L := rfl
    rw [e]
    unfold oneW
    by_cases h : (stM f w).a = a ∧ chg (stM f w) = n
    · rw [if_pos h]
      exact ⟨fun _ => ⟨w, List.mem_cons_self, h⟩, fun _ => by omega⟩
    · rw [if_neg h, Nat.zero_add, ih]
      refine ⟨fun ⟨u, hu, q⟩ => ⟨u, List.mem_cons_of_mem _ hu, q⟩, fun ⟨u, hu, q⟩ => ?_⟩
      rcases List.mem_cons.mp hu with rfl | hu
      · exact absurd q h
      · exact ⟨u, hu, q⟩
theorem hasW_iff {f s : Bool} {a n : Int} {L : List (List Bool)} : hasW f a s n L = (decide (0 < cW f a n L) && decide (n % 2 = 0 ↔ s = f)) := by
  rw [Bool.eq_iff_iff, Bool.and_eq_true, decide_eq_true_eq, decide_eq_true_eq, cW_pos]
  unfold hasW
  rw [List.any_eq_true]
  constructor
  · rintro ⟨w, hw, h⟩
    obtain ⟨h1, h2, h3⟩ := of_decide_eq_true h
    refine ⟨⟨w, hw, h1, h3⟩, ?_⟩
    rw [← h3, ← h2]; exact stM_par f w
  · rintro ⟨⟨w, hw, h1, h2⟩, h3⟩
    refine ⟨w, hw, decide_eq_true ⟨h1, ?_, h2⟩⟩
    have := stM_par f w
    rw [h2] at this
    by_cases e : n % 2 = 0
    · rw [this.mp e, h3.mp e]
    · have e1 : ¬ (stM f w).s = f := fun z => e (this.mpr z)
      have e2 : ¬ s = f := fun z => e (h3.mpr z)
      generalize (stM f w).s = t at e1
      cases t <;> cases s <;> cases f <;> simp at e1 e2 ⊢
theorem cc_small : ∀ (a b : Fin 11) (f l : Bool), ccF f (a.val : Int) (b.val : Int) l = (irg 0 ((a.val : Int) + (b.val : Int) + 1)).filter fun n => decide (0 < rowsF f (a.val : Int) (b.val : Int) n) && decide (n % 2 = 0 ↔ l = f) := by decide +kernel
theorem ends_cc {f l : Bool} {k : Nat} {a : Int} (hk : k ≤ 10) (h0 : 0 ≤ a) (h1 : a ≤ k) : ((irg 0 ((k : Int) + 1)).filter fun n => hasW f a l n (allW k)) = ccF f a (k - a) l := by
  have h := cc_small ⟨a.toNat, by omega⟩ ⟨(k - a).toNat, by omega⟩ f l
  simp only [Int.toNat_of_nonneg h0, Int.toNat_of_nonneg (show 0 ≤ (k : Int) - a by omega)] at h
  rw [h, show a + ((k : Int) - a) + 1 = (k : Int) + 1 by omega]
  refine List.filter_congr fun n hn => ?_
  obtain ⟨n0, _⟩ := mem_irg.mp hn
  rw [hasW_iff]
  congr 1
  apply decide_eq_decide.mpr
  rw [← cW_rows f k a n h0 h1 n0]
  omega
theorem told_eq {f : Bool} {k : Nat} {a n : Int} {kvs : List (List Key × D)} (h : TblOk f (allW k) kvs) (h0 : 0 ≤ a) (h1 : a ≤ k) (hn : 0 ≤ n) : (valD kvs [.inl a, .inl n]).getD (.int 0) = .int (rowsF f a (k - a) n) := by
  rw [h.2, ← cW_rows f k a n h0 h1 hn]
  split
  · rename_i e; rw [e]; rfl
  · rfl

/-! sheets -/
structure En where
  a : Int
  b : Int
  s : Bool
def En.D (e : En) : D := .tup [.int e.a, .int e.b, .str (sd e.s)]
def En.sub (e p : En) : En := ⟨e.a - p.a, e.b - p.b, p.s⟩
/-- the entries before -/
def befM (f : Bool) (L : List En) : List En := ⟨0, 0, f⟩ :: L
def stepsF (f : Bool) (L : List En) : List En := List.zipWith En.sub L (befM f L)
theorem stepsF_len (f : Bool) (L : List En) : (stepsF f L).length = L.length := by unfold stepsF befM; rw [List.length_zipWith, List.length_cons]; omega
theorem stepsF_get {f : Bool} {L : List En} {i : Nat} {e p : En} (h : L[i]? = some e) (h2 : (befM f L)[i]? = some p) : (stepsF f L)[i]? = some (e.sub p) := by unfold stepsF; rw [List.getElem?_zipWith, h, h2]
theorem befM_get {f : Bool} {L : List En} {i : Nat} (h : i ≤ L.length) : ∃ p, (befM f L)[i]? = some p := ⟨(befM f L)[i]'(by unfold befM; rw [List.length_cons]; omega), List.getElem?_eq_getElem _⟩
theorem befM_succ {f : Bool} {L : List En} {i : Nat} : (befM f L)[i + 1]? = L[i]? := rfl
/-- the numbers of changes that are possible, entry by entry -/
def ccE (e st : En) : List Int := ccF st.s st.a st.b e.s
def ccL (f : Bool) (L : List En) : List (List Int) := List.zipWith ccE L (stepsF f L)
def fwM (f : Bool) (L : List En) : Option Nat := (ccL f L).findIdx? fun l => l.isEmpty
def fitM (f : Bool) (L : List En) : Bool := (fwM f L).isNone
/-- rows of one entry -/
def oneE (e st : En) : Int := if 0 < st.a + st.b then choicesM (st.a + st.b - 1) (st.a - (if e.s then 1 else 0)) else 1
def prodE (l : List Int) : Int := l.foldl (fun t x => t * x) 1
def cntM (f : Bool) (L : List En) : Int := if fitM f L then prodE (List.zipWith oneE L (stepsF f L)) else 0
def OkE (e : En) : Prop := -300 ≤ e.a ∧ e.a ≤ 300 ∧ -300 ≤ e.b ∧ e.b ≤ 300
/-- sheets whose points never fall -/
def OkSh (f : Bool) (L : List En) : Prop := L.length ≤ 400 ∧ (∀ e ∈ L, 0 ≤ e.a ∧ 0 ≤ e.b ∧ e.a + e.b ≤ 300) ∧ ∀ st ∈ stepsF f L, 0 ≤ st.a ∧ 0 ≤ st.b
theorem zipWith_get {α β γ : Type} {g : α → β → γ} {l : List α} {l' : List β} {i : Nat} {x : α} {y : β} (h : l[i]? = some x) (h' : l'[i]? = some y) : (List.zipWith g l l')[i]? = some (g x y) := by rw [List.getElem?_zipWith, h, h']
theorem ccM_pos {e : Bool} {x y : Int} (hx : 0 ≤ x) (hy : 0 ≤ y) (h : 1 ≤ x + y) : (ccM e x y).isEmpty = decide ((e = true ∧ x = 0) ∨ (e = false ∧ y = 0)) := by
  cases e with
  | true =>
    unfold ccM
    rw [if_pos rfl]
    by_cases h0 : y = 0
    · rw [if_pos h0]
      simp; omega
    · rw [if_neg h0]
      by_cases h1 : x = 0
      · rw [irg_nil (by omega)]; simp [h1]
      · rw [irg_cons (by omega)]; simp [h1]
  | false =>
    unfold ccM
    rw [if_neg (by decide)]
    by_cases h1 : y = 0
    · rw [irg_nil (by omega)]; simp [h1]
    · rw [irg_cons (by omega)]; simp [h1]
/-- one entry alone -/
theorem cnt_one {f s : Bool} {a b : Int} (ha : 0 ≤ a) (hb : 0 ≤ b) (h : 1 ≤ a + b) : cntM f [⟨a, b, s⟩] = choicesM (a + b - 1) (a - (if s then 1 else 0)) := by
  have e1 : stepsF f [⟨a, b, s⟩] = [⟨a - 0, b - 0, f⟩] := rfl
  rw [Int.sub_zero, Int.sub_zero] at e1
  have e2 : ccL f [⟨a, b, s⟩] = [ccF f a b s] := by unfold ccL; rw [e1]; rfl
  have hz : (ccF f a b s).isEmpty = decide ((s = true ∧ a = 0) ∨ (s = false ∧ b = 0)) := by
    unfold ccF
    cases f with
    | true =>
      rw [if_pos rfl, ccM_pos ha hb h]
      cases s <;> simp
    | false =>
      rw [if_neg (by decide), ccM_pos hb ha (by omega)]
      cases s <;> simp
  unfold cntM fitM fwM
  rw [e2, e1]
  show (if (([ccF f a b s].findIdx? fun l => l.isEmpty).isNone) = true then prodE [oneE ⟨a, b, s⟩ ⟨a, b, f⟩] else 0) = _
  have e3 : ([ccF f a b s].findIdx? fun l => l.isEmpty).isNone = !(ccF f a b s).isEmpty := by
    rw [List.findIdx?_cons]
    cases (ccF f a b s).isEmpty <;> rfl
  rw [e3, hz]
  by_cases z : (s = true ∧ a = 0) ∨ (s = false ∧ b = 0)
  · rw [decide_eq_true z, if_neg (by decide)]
    rcases z with ⟨rfl, rfl⟩ | ⟨rfl, rfl⟩
    · rw [choicesM_neg (.inr (by rw [if_pos rfl]; omega))]
    · rw [choicesM_lt (by rw [if_neg (by decide)]; omega)]
  · rw [decide_eq_false z, if_pos (show (!false) = true from rfl)]
    show 1 * oneE ⟨a, b, s⟩ ⟨a, b, f⟩ = _
    rw [Int.one_mul]
    unfold oneE
    rw [if_pos (show 0 < a + b by omega)]
theorem won_sum {f : Bool} {a b : Int} (ha : 1 ≤ a) (hb : 1 ≤ b) : cntM f [⟨a, b, true⟩] = cntM f [⟨a - 1, b, true⟩] + cntM f [⟨a - 1, b, false⟩] := by
  rw [cnt_one (by omega) (by omega) (by omega), cnt_one (by omega) (by omega) (by omega), cnt_one (by omega) (by omega) (by omega)]
  simp only [if_true, Bool.false_eq_true, if_false]
  rw [pasc (by omega), Int.add_comm]
  rw [show a - 1 + b - 1 = a + b - 1 - 1 by omega, Int.sub_zero]
theorem lost_sum {f : Bool} {a b : Int} (ha : 1 ≤ a) (hb : 1 ≤ b) : cntM f [⟨a, b, false⟩] = cntM f [⟨a, b - 1, true⟩] + cntM f [⟨a, b - 1, false⟩] := by
  rw [cnt_one (by omega) (by omega) (by omega), cnt_one (by omega) (by omega) (by omega), cnt_one (by omega) (by omega) (by omega)]
  simp only [if_true, Bool.false_eq_true, if_false]
  rw [pasc (by omega), Int.add_comm]
  rw [show a + (b - 1) - 1 = a + b - 1 - 1 by omega, Int.sub_zero]
/-! the rows of one class sum to the rows of the score before -/
def evE (x y : Int) : Nat → Int
  | 0 => 0
  | m + 1 => evE x y m + rowsM x y (2 * m + 2)
def odE (x y : Int) : Nat → Int
  | 0 => 0
  | m + 1 => odE x y m + rowsM x y (2 * m + 1)
theorem evE_sum {x y : Int} (hx : 1 ≤ x) (hy : 1 ≤ y) : ∀ m : Nat, evE x y m = sumE (x - 1) y m
  | 0 => by show 0 = rowsM (x - 1) y 0; rw [rows_zero (by omega), if_neg (by omega)]
  | m + 1 => by
    rw [evE, sumE, evE_sum hx hy m, rows_even hx (by omega) (by omega), show 2 * (m : Int) + 2 - 1 = 2 * m + 1 by omega]; omega
theorem odE_sum {x y : Int} (hx : 0 ≤ x) (hy : 1 ≤ y) : ∀ m : Nat, odE x y m = sumE x (y - 1) m - rowsM x (y - 1) (2 * m)
  | 0 => by show 0 = rowsM x (y - 1) 0 - rowsM x (y - 1) 0; omega
  | m + 1 => by
    rw [odE, sumE, odE_sum hx hy m, rows_odd hy (by omega) (by omega), show 2 * (m : Int) + 1 - 1 = 2 * m by omega, show (2 : Int) * ((m + 1 : Nat) : Int) = 2 * m + 2 by omega]; omega
theorem filt_sum {l : List Int} {p : Int → Bool} {g : Int → Int} (h : ∀ x ∈ l, p x = false → g x = 0) : ((l.filter p).map g).sum = (l.map g).sum := by
  induction l with
  | nil => rfl
  | cons x l ih =>
    have ih := ih fun y hy => h y (List.mem_cons_of_mem _ hy)
    rw [List.filter_cons]
    cases e : p x with
    | true => rw [if_pos rfl, List.map_cons, List.map_cons, List.sum_cons, List.sum_cons, ih]
    | false => rw [if_neg (by decide), List.map_cons, List.sum_cons, ih, h x List.mem_cons_self e, Int.zero_add]
theorem class_even (x y : Int) (h : rowsM x y 0 = 0) : ∀ m : Nat, ((irg 0 (2 * m + 1)).map fun n => if n % 2 = 0 then rowsM x y n else 0).sum = evE x y m
  | 0 => by
    rw [show irg 0 (2 * ((0 : Nat) : Int) + 1) = [0] from rfl]
    show (if (0 : Int) % 2 = 0 then rowsM x y 0 else 0) + 0 = 0
    rw [if_pos (show (0 : Int) % 2 = 0 from rfl), h]; rfl
  | m + 1 => by
    rw [show ((2 : Int) * ((m + 1 : Nat) : Int) + 1) = 2 * (m : Int) + 1 + 1 + 1 by omega, irg_snoc (by omega), irg_snoc (by omega), List.map_append, List.map_append, List.sum_append, List.sum_append, class_even x y h m]
    show _ + ((if (2 * (m : Int) + 1) % 2 = 0 then _ else 0) + 0) + ((if (2 * (m : Int) + 1 + 1) % 2 = 0 then rowsM x y (2 * m + 1 + 1) else 0) + 0) = _
    rw [if_neg (by omega), if_pos (by omega), evE, show (2 * (m : Int) + 1 + 1) = 2 * m + 2 by omega]; omega
theorem class_odd (x y : Int) : ∀ m : Nat, ((irg 0 (2 * m + 1)).map fun n => if n % 2 = 0 then 0 else rowsM x y n).sum = odE x y m
  | 0 => by
    rw [show irg 0 (2 * ((0 : Nat) : Int) + 1) = [0] from rfl]
    rfl
  | m + 1 => by
    rw [show ((2 : Int) * ((m + 1 : Nat) : Int) + 1) = 2 * (m : Int) + 1 + 1 + 1 by omega, irg_snoc (by omega), irg_snoc (by omega), List.map_append, List.map_append, List.sum_append, List.sum_append, class_odd x y m]
    show _ + ((if (2 * (m : Int) + 1) % 2 = 0 then 0 else rowsM x y (2 * m + 1)) + 0) + ((if (2 * (m : Int) + 1 + 1) % 2 = 0 then 0 else _) + 0) = _
    rw [if_neg (by omega), if_pos (by omega), odE]; omega
theorem rowsF_nn (f : Bool) (a b n : Int) : 0 ≤ rowsF f a b n := by
  have h : ∀ p k, 0 ≤ runsM p k := fun p k => by
    unfold runsM
    split
    · split <;> omega
    · exact choicesM_nn _ _
  cases f <;> exact Int.mul_nonneg (h _ _) (h _ _)
theorem won_rows {f : Bool} {a b : Int} (ha : 1 ≤ a ∧ a ≤ 60) (hb : 1 ≤ b ∧ b ≤ 60) : ((ccF f a b true).map (rowsF f a b)).sum = cntM f [⟨a, b, true⟩] := by
  obtain ⟨c, M, _, _, e1, e2⟩ := part_F (f := f) (l := true) ha hb
  rw [e1, ← e2, cnt_one (by omega) (by omega) (by omega), if_pos rfl]
  have k1 : ((irg 0 121).filter fun n => decide (0 < rowsF f a b n) && (decide (n % 2 = 0) == decide (sd true = sd f))).map (rowsF f a b) = ((irg 0 121).filter fun n => decide (0 < rowsF f a b n) && (decide (n % 2 = 0) == decide (sd true = sd f))).map (fun n => if (decide (n % 2 = 0) == decide (sd true = sd f)) = true then rowsF f a b n else 0) := by
    refine List.map_congr_left fun n hn => ?_
    have := (List.mem_filter.mp hn).2
    rw [Bool.and_eq_true] at this
    rw [if_pos this.2]
  rw [k1, filt_sum (fun n _ hp => ?_)]
  · obtain ⟨x, rfl⟩ := Int.eq_ofNat_of_zero_le (show 0 ≤ a by omega)
    obtain ⟨y, rfl⟩ := Int.eq_ofNat_of_zero_le (show 0 ≤ b by omega)
    have e3 : ((x : Int) + (y : Int) - 1) = (((x - 1) + y : Nat) : Int) := by omega
    have e4 : ((x : Int) - 1) = ((x - 1 : Nat) : Int) := by omega
    rw [dsd]
    cases f with
    | true =>
      have c1 := class_even (x : Int) (y : Int) (by rw [rows_zero (by omega), if_neg (by omega)]) 60
      rw [evE_sum (by omega) (by omega), e4, sumE_ch _ (x - 1) y rfl (by omega) (by omega)] at c1
      rw [e3, e4, choicesM_nat, ← c1]
      refine congrArg List.sum (List.map_congr_left fun n _ => ?_)
      by_cases h : n % 2 = 0
      · rw [if_pos h, if_pos (by rw [decide_eq_true h]; rfl)]; rfl
      · rw [if_neg h, if_neg (by rw [decide_eq_false h]; decide)]
    | false =>
      have c1 := class_odd (y : Int) (x : Int) 60
      rw [odE_sum (by omega) (by omega), rows_far (by omega) (by omega) (by omega), Int.sub_zero, e4, sumE_ch _ y (x - 1) rfl (by omega) (by omega), ch_sym _ y (x - 1) rfl, Nat.add_comm] at c1
      rw [e3, e4, choicesM_nat, ← c1]
      refine congrArg List.sum (List.map_congr_left fun n _ => ?_)
      by_cases h : n % 2 = 0
      · rw [if_pos h, if_neg (by rw [decide_eq_true h]; decide)]
      · rw [if_neg h, if_pos (by rw [decide_eq_false h]; rfl)]; rfl
  · have nn := rowsF_nn f a b n
    split
    · rename_i h
      rw [h, Bool.and_true] at hp
      have := of_decide_eq_false hp
      omega
    · rfl
theorem mapD_get {L : List En} {i : Nat} {d : D} (h : (L.map En.D)[i]? = some d) : ∃ e, L[i]? = some e ∧ d = e.D := by
  rw [List.getElem?_map] at h
  cases q : L[i]? with
  | none => rw [q] at h; cases h
  | some e => rw [q] at h; cases h; exact ⟨e, rfl, rfl⟩
theorem stepsF_mem {f : Bool} {L : List En} {st : En} (h : st ∈ stepsF f L) : ∃ e p, e ∈ L ∧ p ∈ befM f L ∧ st = e.sub p := by
  obtain ⟨i, hi⟩ := List.getElem?_of_mem h
  unfold stepsF at hi
  rw [List.getElem?_zipWith] at hi
  cases h1 : L[i]? with
  | none => rw [h1] at hi; cases hi
  | some e =>
    cases h2 : (befM f L)[i]? with
    | none => rw [h1, h2] at hi; cases hi
    | some p => rw [h1, h2] at hi; cases hi; exact ⟨e, p, List.mem_of_getElem? h1, List.mem_of_getElem? h2, rfl⟩
theorem bef_ok {f : Bool} {L : List En} (h : OkSh f L) {p : En} (hp : p ∈ befM f L) : 0 ≤ p.a ∧ 0 ≤ p.b ∧ p.a + p.b ≤ 300 := by
  rcases List.mem_cons.mp hp with rfl | hp
  · exact ⟨Int.le_refl _, Int.le_refl _, by show (0 : Int) + 0 ≤ 300; decide⟩
  · exact h.2.1 p hp
theorem okSh_st {f : Bool} {L : List En} (h : OkSh f L) : ∀ st ∈ stepsF f L, OkE st := fun st hst => by
  obtain ⟨e, p, he, hp, rfl⟩ := stepsF_mem hst
  have h1 := h.2.1 e he
  have h2 := bef_ok h hp
  unfold OkE En.sub
  simp only
  omega
theorem eqv_nil (l : List Int) : D.eqv (.lst (l.map D.int)) (.lst []) = l.isEmpty := by
  cases l <;> simp [D.eqv, D.toPy, D.toPyL, PyData.eqv, PyData.eqvAll]
def fwD : Option Nat → D
  | none => .non
  | some i => .int (i : Nat)
def ccD (l : List Int) : D := .lst (l.map D.int)
theorem ccD_get {M : List (List Int)} {i : Nat} {d : D} (h : (M.map ccD)[i]? = some d) : ∃ l, M[i]? = some l ∧ d = ccD l := by
  rw [List.getElem?_map] at h
  cases q : M[i]? with
  | none => rw [q] at h; cases h
  | some e => rw [q] at h; cases h; exact ⟨e, rfl, rfl⟩
theorem fw_some {f : Bool} {L : List En} {i : Nat} {l : List Int} (h : (ccL f L)[i]? = some l) (he : l.isEmpty = true) (hb : ∀ k < i, ∀ l', (ccL f L)[k]? = some l' → l'.isEmpty = false) : fwM f L = some i := by
  unfold fwM
  obtain ⟨h1, h2⟩ := List.getElem?_eq_some_iff.mp h
  rw [List.findIdx?_eq_some_iff_getElem]
  refine ⟨h1, by rw [h2]; exact he, fun j hj => ?_⟩
  have := hb j hj _ (List.getElem?_eq_getElem (by omega))
  rw [this]; decide
theorem fw_none {f : Bool} {L : List En} (hb : ∀ k < (ccL f L).length, ∀ l', (ccL f L)[k]? = some l' → l'.isEmpty = false) : fwM f L = none := by
  unfold fwM
  rw [List.findIdx?_eq_none_iff]
  intro x hx
  obtain ⟨i, hi⟩ := List.getElem?_of_mem hx
  exact hb i (List.getElem?_eq_some_iff.mp hi).1 x hi
theorem choicesM_le2 {n k : Int} (h : 0 ≤ n) : choicesM n k ≤ ((2 ^ n.toNat : Nat) : Int) := by
  by_cases h0 : 0 ≤ k ∧ k ≤ n
  · have e : choicesM n k = choicesM (n.toNat : Int) (k.toNat : Int) := by rw [Int.toNat_of_nonneg (by omega), Int.toNat_of_nonneg h0.1]
    rw [e, choicesM_nat]
    have := ch_le n.toNat k.toNat
    omega
  · unfold choicesM
    rw [if_neg h0]; exact Int.natCast_nonneg _
theorem oneE_ok {e st : En} (h : 0 ≤ st.a ∧ 0 ≤ st.b) : 0 ≤ oneE e st ∧ oneE e st ≤ ((2 ^ (st.a + st.b).toNat : Nat) : Int) := by
  unfold oneE
  split
  · rename_i h0
    refine ⟨choicesM_nn _ _, Int.le_trans (choicesM_le2 (by omega)) ?_⟩
    have := Nat.pow_le_pow_right (n := 2) (by decide) (show (st.a + st.b - 1).toNat ≤ (st.a + st.b).toNat by omega)
    omega
  · have := Nat.one_le_two_pow (n := (st.a + st.b).toNat)
    omega
theorem prodE_snoc (l : List Int) (x : Int) : prodE (l ++ [x]) = prodE l * x := by unfold prodE; rw [List.foldl_append]; rfl
def prodI (f : Bool) (L : List En) (i : Nat) : Int := prodE ((List.zipWith oneE L (stepsF f L)).take i)
theorem prodI_succ {f : Bool} {L : List En} {i : Nat} {e p : En} (he : L[i]? = some e) (hp : (befM f L)[i]? = some p) : prodI f L (i + 1) = prodI f L i * oneE e (e.sub p) := by
  unfold prodI
  rw [take_snoc (zipWith_get he (stepsF_get he hp)), prodE_snoc]
theorem prodI_ok {f : Bool} {L : List En} (h : OkSh f L) : ∀ (i : Nat) (p : En), (befM f L)[i]? = some p → 0 ≤ prodI f L i ∧ prodI f L i ≤ ((2 ^ (p.a + p.b).toNat : Nat) : Int)
  | 0, p, hp => by
    cases hp
    exact ⟨by show (0 : Int) ≤ 1; decide, by show (1 : Int) ≤ ((2 ^ (0 + 0 : Int).toNat : Nat) : Int); decide⟩
  | i + 1, e, he => by
    rw [befM_succ] at he
    have hi := (List.getElem?_eq_some_iff.mp he).1
    obtain ⟨p, hp⟩ := befM_get (f := f) (show i ≤ L.length by omega)
    have ih := prodI_ok h i p hp
    have hst := h.2.2 _ (List.mem_of_getElem? (stepsF_get he hp))
    have h1 := oneE_ok (e := e) hst
    have hp' := bef_ok h (List.mem_of_getElem? hp)
    rw [prodI_succ he hp]
    refine ⟨Int.mul_nonneg ih.1 h1.1, Int.le_trans (Int.mul_le_mul ih.2 h1.2 h1.1 (by omega)) ?_⟩
    unfold En.sub at hst ⊢
    simp only at hst ⊢
    rw [← Int.natCast_mul, ← Nat.pow_add, show (p.a + p.b).toNat + (e.a - p.a + (e.b - p.b)).toNat = (e.a + e.b).toNat by omega]
    exact Int.le_refl _
theorem prodI_wide {f : Bool} {L : List En} (h : OkSh f L) {i : Nat} {p : En} (hp : (befM f L)[i]? = some p) {n k : Int} (hn : n ≤ 300) : CMulW (prodI f L i) (choicesM n k) := by
  have h1 := prodI_ok h i p hp
  have h2 := bef_ok h (List.mem_of_getElem? hp)
  refine wide_mul (a := 400) (b := 400) ?_ (choicesM_le hn) (by decide) (by decide) (by decide)
  have h3 : 2 ^ (p.a + p.b).toNat < 2 ^ 400 := Nat.pow_lt_pow_right (by decide) (by omega)
  omega
theorem prodI_all (f : Bool) (L : List En) : prodI f L L.length = prodE (List.zipWith oneE L (stepsF f L)) := by
  unfold prodI
  rw [List.take_of_length_le (by rw [List.length_zipWith]; omega)]
def sp_state : DSp := fun ds S Q => ∃ f w, ds = [.str (sd f), .str (tx w)] ∧ Q (stM f w).D S
def sp_changes : DSp := fun ds S Q => ∃ f w, ds = [.str (sd f), .str (tx w)] ∧ Q (.int ((stM f w).x + (stM f w).y)) S
def sp_steps : DSp := fun ds S Q => ∃ f L, ds = [.str (sd f), .tup (L.map En.D)] ∧ L.length ≤ 400 ∧ Q (.lst ((stepsF f L).map En.D)) S
def sp_all_choices : DSp := fun ds S Q => ∃ f L, ds = [.str (sd f), .tup (L.map En.D)] ∧ L.length ≤ 400 ∧ (∀ st ∈ stepsF f L, OkE st) ∧ Q (.lst ((ccL f L).map ccD)) S
def sp_first_wrong : DSp := fun ds S Q => ∃ f L, ds = [.str (sd f), .tup (L.map En.D)] ∧ L.length ≤ 400 ∧ (∀ st ∈ stepsF f L, OkE st) ∧ Q (fwD (fwM f L)) S
def sp_fits : DSp := fun ds S Q => ∃ f L, ds = [.str (sd f), .tup (L.map En.D)] ∧ L.length ≤ 400 ∧ (∀ st ∈ stepsF f L, OkE st) ∧ Q (.bl (fitM f L)) S
def sp_count_sheet : DSp := fun ds S Q => ∃ f L, ds = [.str (sd f), .tup (L.map En.D)] ∧ OkSh f L ∧ Q (.int (cntM f L)) S
def sp_l_far : DSp := fun ds S Q => ∃ s : Bool, ds = [.str (sd s)] ∧ Q (.str (sd (!s))) S
theorem cc_true {f : Bool} {a b : Int} (ha : 1 ≤ a) (hb : 1 ≤ b) : (ccF f a b true).isEmpty = false := by
  unfold ccF
  cases f with
  | true => rw [if_pos rfl, ccM_pos (by omega) (by omega) (by omega)]; simp; omega
  | false => rw [if_neg (by decide), ccM_pos (by omega) (by omega) (by omega)]; simp; omega
theorem cnt_two {f : Bool} {a b : Int} (ha : 1 ≤ a) (hb : 1 ≤ b) : cntM f [⟨a, b, true⟩, ⟨a + 1, b, true⟩] = cntM f [⟨a, b, true⟩] := by
  have e1 : stepsF f [⟨a, b, true⟩, ⟨a + 1, b, true⟩] = [⟨a - 0, b - 0, f⟩, ⟨a + 1 - a, b - b, true⟩] := rfl
  have e1' : stepsF f [⟨a, b, true⟩] = [⟨a - 0, b - 0, f⟩] := rfl
  rw [Int.sub_zero, Int.sub_zero, show a + 1 - a = 1 by omega, show b - b = 0 by omega] at e1
  rw [Int.sub_zero, Int.sub_zero] at e1'
  have e2 : ccL f [⟨a, b, true⟩, ⟨a + 1, b, true⟩] = [ccF f a b true, [0]] := by unfold ccL; rw [e1]; rfl
  have e2' : ccL f [⟨a, b, true⟩] = [ccF f a b true] := by unfold ccL; rw [e1']; rfl
  have h := cc_true (f := f) ha hb
  have f1 : ([ccF f a b true, [0]].findIdx? fun l => l.isEmpty) = none := by rw [List.findIdx?_cons, h]; rfl
  have f2 : ([ccF f a b true].findIdx? fun l => l.isEmpty) = none := by rw [List.findIdx?_cons, h]; rfl
  unfold cntM fitM fwM
  rw [e2, e2', e1, e1', f1, f2]
  show 1 * oneE _ _ * oneE ⟨a + 1, b, true⟩ ⟨1, 0, true⟩ = 1 * oneE _ _
  rw [show oneE ⟨a + 1, b, true⟩ ⟨1, 0, true⟩ = 1 from rfl, Int.mul_one]
theorem fit_not {f : Bool} {a b : Int} (ha : 1 ≤ a) (hb : 1 ≤ b) : fitM f [⟨a, b, true⟩, ⟨a + 1, b, false⟩] = false := by
  have e1 : stepsF f [⟨a, b, true⟩, ⟨a + 1, b, false⟩] = [⟨a - 0, b - 0, f⟩, ⟨a + 1 - a, b - b, true⟩] := rfl
  rw [Int.sub_zero, Int.sub_zero, show a + 1 - a = 1 by omega, show b - b = 0 by omega] at e1
  have e2 : ccL f [⟨a, b, true⟩, ⟨a + 1, b, false⟩] = [ccF f a b true, []] := by unfold ccL; rw [e1]; rfl
  have h := cc_true (f := f) ha hb
  unfold fitM fwM
  rw [e2, List.findIdx?_cons, h]; rfl
theorem okSh_one {f s : Bool} {a b : Int} (ha : 0 ≤ a) (hb : 0 ≤ b) (h : a + b ≤ 300) : OkSh f [⟨a, b, s⟩] := by
  refine ⟨by show 1 ≤ 400; decide, fun e he => ?_, fun st hs => ?_⟩
  · rw [List.mem_singleton.mp he]; exact ⟨ha, hb, h⟩
  · have e1 : stepsF f [⟨a, b, s⟩] = [⟨a - 0, b - 0, f⟩] := rfl
    rw [e1, List.mem_singleton] at hs
    rw [hs]
    show 0 ≤ a - 0 ∧ 0 ≤ b - 0
    omega
theorem okSh_two {f s t : Bool} {a b c d : Int} (ha : 0 ≤ a) (hb : 0 ≤ b) (h : c + d ≤ 300) (hc : a ≤ c) (hd : b ≤ d) : OkSh f [⟨a, b, s⟩, ⟨c, d, t⟩] := by
  refine ⟨by show 2 ≤ 400; decide, fun e he => ?_, fun st hs => ?_⟩
  · rcases List.mem_cons.mp he with rfl | he
    · exact ⟨ha, hb, by show a + b ≤ 300; omega⟩
    · rw [List.mem_singleton.mp he]; exact ⟨by show 0 ≤ c; omega, by show 0 ≤ d; omega, h⟩
  · have e1 : stepsF f [⟨a, b, s⟩, ⟨c, d, t⟩] = [⟨a - 0, b - 0, f⟩, ⟨c - a, d - b, s⟩] := rfl
    rw [e1] at hs
    rcases List.mem_cons.mp hs with rfl | hs
    · show 0 ≤ a - 0 ∧ 0 ≤ b - 0; omega
    · rw [List.mem_singleton.mp hs]; show 0 ≤ c - a ∧ 0 ≤ d - b; omega
theorem ccF_mem {f l : Bool} {a b n : Int} (ha : 1 ≤ a ∧ a ≤ 60) (hb : 1 ≤ b ∧ b ≤ 60) (h : n ∈ ccF f a b l) : 0 ≤ n ∧ n < 121 := by
  obtain ⟨c, M, _, _, e1, e2⟩ := part_F (f := f) (l := l) ha hb
  rw [e1, ← e2] at h
  exact mem_irg.mp (List.mem_filter.mp h).1
theorem ccF_size {f l : Bool} {a b : Int} (ha : 1 ≤ a ∧ a ≤ 60) (hb : 1 ≤ b ∧ b ≤ 60) : (ccF f a b l).length ≤ 1000 := by
  obtain ⟨c, M, _, hM, e1, _⟩ := part_F (f := f) (l := l) ha hb
  rw [e1, irgC_len]; omega
def isA : D → Bool
  | .str x => decide (x = "A")
  | _ => false
theorem isA_sd (l : Bool) : isA (.str (sd l)) = l := dsdA l
theorem ab_mem {d : D} (h : d ∈ [D.str "A", D.str "B"]) : ∃ l : Bool, d = .str (sd l) := by
  obtain ⟨i, hi⟩ := List.getElem?_of_mem h
  exact ab_get hi
theorem ab_map (g : Bool → D) : [D.str "A", D.str "B"].map (fun d => g (isA d)) = [g true, g false] := by
  show [g (isA (.str (sd true))), g (isA (.str (sd false)))] = _
  rw [isA_sd, isA_sd]
/-- a comprehension over ints -/
theorem mc_ints {ti : TDI} {g : TDG} {te : TD} {vs : List Nat} {ρ : DSt} {S : Sto} {Q : DQ} {l : List Int} (hti : ∀ R : List D → Sto → Prop, R (l.map D.int) S → ti ρ S R) (hl : l.length ≤ 16777216) (f : Int → D)
    (h : ∀ i ∈ l, ∀ (R : DQ) (R0 : Sto → Prop), R (f i) S → g (.int i) (dwipe ρ vs) S fun ρ2 S2 => dYes ρ2 S2 fun b S3 => Br b (te ρ2 S3 R) (R0 S3)) (hq : Q (.lst (l.map f)) S) : dLc ti g dYes te vs ρ S Q := by
  refine lc_map hti (sz_le (by rw [List.length_map]; exact hl)) (fun d => match d with | .int i => f i | _ => .non) (fun d hd R R0 r => ?_) ?_
  · obtain ⟨i, hi, rfl⟩ := List.mem_map.mp hd
    exact h i hi R R0 r
  · rw [List.map_map]; exact hq

/-! counting over whole periods -/
/-- how many of a, a + 1, .. (n of them) -/
def cnt0 (h : Int → Bool) (a : Int) : Nat → Int
  | 0 => 0
  | n + 1 => cnt0 h a n + (if h (a + n) then 1 else 0)
theorem cnt0_shift (h : Int → Bool) (a : Int) : ∀ n : Nat, cnt0 h (a + 1) n + (if h a then 1 else 0) = cnt0 h a (n + 1)
  | 0 => by simp [cnt0]
  | n + 1 => by
    have ih := cnt0_shift h a n
    rw [cnt0, cnt0]
    rw [show a + 1 + (n : Int) = a + ((n + 1 : Nat) : Int) by omega]
    omega
theorem cnt0_per {h : Int → Bool} {p : Nat} (hp : ∀ x, h (x + p) = h x) (a : Int) : cnt0 h (a + 1) p = cnt0 h a p := by
  have e := cnt0_shift h a p
  rw [cnt0, hp] at e
  omega
theorem cnt0_any {h : Int → Bool} {p : Nat} (hp : ∀ x, h (x + p) = h x) (a : Int) : cnt0 h a p = cnt0 h 0 p := by
  have up : ∀ (n : Nat) (b : Int), cnt0 h (b + n) p = cnt0 h b p := fun n => by
    induction n with
    | zero => intro b; rw [show b + ((0 : Nat) : Int) = b by omega]
    | succ n ih => intro b; rw [show b + ((n + 1 : Nat) : Int) = b + n + 1 by omega, cnt0_per hp, ih]
  by_cases h0 : 0 ≤ a
  · have e := up a.toNat 0
    rw [show (0 : Int) + (a.toNat : Int) = a by omega] at e
    exact e
  · have e := up (-a).toNat a
    rw [show a + ((-a).toNat : Int) = 0 by omega] at e
    exact e.symm
theorem cnt0_add (h : Int → Bool) (a : Int) (m : Nat) : ∀ n : Nat, cnt0 h a (m + n) = cnt0 h a m + cnt0 h (a + m) n
  | 0 => by simp [cnt0]
  | n + 1 => by
    rw [show m + (n + 1) = (m + n) + 1 by omega, cnt0, cnt0, cnt0_add h a m n, show a + (m : Int) + (n : Int) = a + ((m + n : Nat) : Int) by omega]
    omega
theorem cnt0_mul {h : Int → Bool} {p : Nat} (hp : ∀ x, h (x + p) = h x) (a : Int) : ∀ k : Nat, cnt0 h a (k * p) = k * cnt0 h 0 p
  | 0 => by simp [cnt0]
  | k + 1 => by
    rw [Nat.succ_mul, cnt0_add, cnt0_mul hp a k, cnt0_any hp (a + ((k * p : Nat) : Int))]
    rw [show ((k + 1 : Nat) : Int) = (k : Int) + 1 by omega, Int.add_mul, Int.one_mul]
theorem cnt0_congr {h g : Int → Bool} {a : Int} : ∀ {n : Nat}, (∀ i : Nat, i < n → h (a + i) = g (a + i)) → cnt0 h a n = cnt0 g a n
  | 0, _ => rfl
  | n + 1, e => by rw [cnt0, cnt0, e n (Nat.lt_succ_self n), cnt0_congr fun i hi => e i (Nat.lt_succ_of_lt hi)]
theorem cnt0_ge (q : Int) (hq : 0 ≤ q) : ∀ n : Nat, cnt0 (fun x => decide (q ≤ x)) 0 n = if q ≤ n then n - q else 0
  | 0 => by rw [cnt0]; split <;> omega
  | n + 1 => by
    rw [cnt0, cnt0_ge q hq n]
    simp only [decide_eq_true_eq]
    by_cases h : q ≤ (n : Int)
    · rw [if_pos h, if_pos (by omega), if_pos (by omega)]; omega
    · rw [if_neg h, if_neg (by omega)]
      split <;> omega
/-- in a front: each place once -/
def inF (a t w p : Int) : Bool := decide ((p - t - 1) % a < w)
theorem inF_per (a w p x : Int) : inF a (x + a) w p = inF a x w p := by
  unfold inF
  rw [show p - (x + a) - 1 = p - x - 1 - a by omega, Int.sub_emod_right]
theorem inF_cnt {a : Nat} {w p : Int} (ha : 0 < a) (hw : 0 ≤ w ∧ w ≤ a) : cnt0 (fun x => inF a x w p) 0 a = w := by
  rw [← cnt0_any (h := fun x => inF a x w p) (p := a) (fun x => inF_per a w p x) (p - a)]
  have e : cnt0 (fun x => inF a x w p) (p - a) a = cnt0 (fun x => decide ((a : Int) - w ≤ x)) 0 a := by
    have e1 : ∀ n : Nat, n ≤ a → cnt0 (fun x => inF a x w p) (p - a) n = cnt0 (fun x => decide ((a : Int) - w ≤ x)) 0 n := fun n => by
      induction n with
      | zero => intro _; rfl
      | succ n ih =>
        intro hn
        rw [cnt0, cnt0, ih (by omega)]
        congr 2
        unfold inF
        rw [show p - (p - (a : Int) + (n : Int)) - 1 = (a : Int) - 1 - n by omega, Int.emod_eq_of_lt (by omega) (by omega), Int.zero_add]
        by_cases h : (a : Int) - w ≤ n
        · rw [decide_eq_true h, decide_eq_true (by omega)]
        · rw [decide_eq_false h, decide_eq_false (by omega)]
    exact e1 a (Nat.le_refl _)
  rw [e, cnt0_ge _ (by omega), if_pos (by omega)]
  omega
/-- rotations of A, of B after n serve changes -/
def rotA (f : Bool) (n : Int) : Int := if f then n / 2 else (n + 1) / 2
def rotB (f : Bool) (n : Int) : Int := if f then (n + 1) / 2 else n / 2
theorem rotB_not (f : Bool) (n : Int) : rotB (!f) n = rotA f n := by cases f <;> rfl
theorem rotA_not (f : Bool) (n : Int) : rotA (!f) n = rotB f n := by cases f <;> rfl
theorem half_cnt (g : Int → Bool) : ∀ L : Nat, cnt0 (fun n => g (n / 2)) 0 (2 * L) = 2 * cnt0 g 0 L
  | 0 => by simp [cnt0]
  | L + 1 => by
    rw [show 2 * (L + 1) = 2 * L + 1 + 1 by omega, cnt0, cnt0, half_cnt g L, cnt0]
    rw [show (0 : Int) + ((2 * L : Nat) : Int) = 2 * L by omega, show (0 : Int) + ((2 * L + 1 : Nat) : Int) = 2 * L + 1 by omega, show (2 * (L : Int)) / 2 = L by omega, show (2 * (L : Int) + 1) / 2 = L by omega, Int.zero_add]
    omega
theorem half1_cnt (g : Int → Bool) : ∀ L : Nat, cnt0 (fun n => g ((n + 1) / 2)) 0 (2 * L) + (if g 0 then 1 else 0) = 2 * cnt0 g 0 L + (if g L then 1 else 0)
  | 0 => by simp [cnt0]
  | L + 1 => by
    have ih := half1_cnt g L
    rw [show 2 * (L + 1) = 2 * L + 1 + 1 by omega, cnt0, cnt0, cnt0]
    rw [show (0 : Int) + ((2 * L : Nat) : Int) + 1 = 2 * L + 1 by omega, show (0 : Int) + ((2 * L + 1 : Nat) : Int) + 1 = 2 * L + 2 by omega, show (2 * (L : Int) + 1) / 2 = L by omega, show (2 * (L : Int) + 2) / 2 = ((L + 1 : Nat) : Int) by omega, Int.zero_add]
    omega
theorem rot_cnt {g : Int → Bool} {q : Nat} (hg : ∀ x, g (x + q) = g x) (f : Bool) (k : Nat) : cnt0 (fun n => g (rotA f n)) 0 (2 * (k * q)) = 2 * (k * cnt0 g 0 q) := by
  cases f with
  | true =>
    have e : (fun n => g (rotA true n)) = fun n => g (n / 2) := rfl
    rw [e, half_cnt, cnt0_mul hg]
  | false =>
    have e : (fun n => g (rotA false n)) = fun n => g ((n + 1) / 2) := rfl
    have h := half1_cnt g (k * q)
    have hk : ∀ k : Nat, g ((k * q : Nat) : Int) = g 0 := fun k => by
      induction k with
      | zero => simp
      | succ k ih => rw [Nat.succ_mul, show ((k * q + q : Nat) : Int) = ((k * q : Nat) : Int) + q by omega, hg, ih]
    rw [e]
    rw [hk, cnt0_mul hg] at h
    omega
/-! the whole period -/
def perM (p q : Nat) : Nat := 2 * p * q / Nat.gcd p q
theorem perM_le {p q : Nat} (hp : p ≤ 300) (hq : q ≤ 300) : perM p q ≤ 180000 := by
  unfold perM
  refine Nat.le_trans (Nat.div_le_self _ _) ?_
  exact Nat.mul_le_mul (Nat.mul_le_mul_left 2 hp) hq
theorem perM_q {p q : Nat} (hp : 0 < p) : perM p q = 2 * (p / Nat.gcd p q * q) := by
  unfold perM
  obtain ⟨k, hk⟩ := Nat.gcd_dvd_left p q
  have hg : 0 < Nat.gcd p q := Nat.gcd_pos_of_pos_left _ hp
  generalize Nat.gcd p q = g at *
  subst hk
  rw [Nat.mul_div_cancel_left _ hg]
  rw [show 2 * (g * k) * q = g * (2 * (k * q)) by simp only [Nat.mul_assoc, Nat.mul_left_comm, Nat.mul_comm], Nat.mul_div_cancel_left _ hg]
theorem perM_int (p q : Nat) : ((perM p q : Nat) : Int) = 2 * (p : Int) * (q : Int) / ((Nat.gcd p q : Nat) : Int) := by
  unfold perM
  rw [Int.natCast_ediv, Int.natCast_mul, Int.natCast_mul]; rfl
theorem perM_comm (p q : Nat) : perM p q = perM q p := by
  unfold perM
  rw [Nat.gcd_comm, Nat.mul_assoc, Nat.mul_assoc, Nat.mul_comm p q]
theorem perM_p {p q : Nat} (hq : 0 < q) : perM p q = 2 * (q / Nat.gcd p q * p) := by
  rw [perM_comm, perM_q hq, Nat.gcd_comm]
/-- both in front after n rotations -/
def bothF (f : Bool) (p q : Nat) (wa wb i j sh n : Int) : Bool := inF p (rotA f n + sh) wa i && inF q (rotB f n) wb j
def togN (f : Bool) (p q : Nat) (wa wb i j sh : Int) (m : Nat) : Int := cnt0 (bothF f p q wa wb i j sh) 0 m
def togM (f : Bool) (p q : Nat) (wa wb i j sh : Int) : Int := togN f p q wa wb i j sh (perM p q)
theorem togN_succ {f : Bool} {p q : Nat} {wa wb i j sh : Int} {k : Nat} : togN f p q wa wb i j sh (k + 1) = togN f p q wa wb i j sh k + (if bothF f p q wa wb i j sh k then 1 else 0) := by
  unfold togN
  rw [cnt0, Int.zero_add]
theorem cnt0_nn {h : Int → Bool} {a : Int} : ∀ {n : Nat}, 0 ≤ cnt0 h a n
  | 0 => Int.le_refl _
  | n + 1 => by
    have := cnt0_nn (h := h) (a := a) (n := n)
    rw [cnt0]
    split <;> omega
theorem cnt0_le {h : Int → Bool} {a : Int} : ∀ {n : Nat}, cnt0 h a n ≤ n
  | 0 => Int.le_refl _
  | n + 1 => by
    have := cnt0_le (h := h) (a := a) (n := n)
    rw [cnt0]
    split <;> omega
theorem togM_nn {f : Bool} {p q : Nat} {wa wb i j sh : Int} : 0 ≤ togM f p q wa wb i j sh := cnt0_nn
theorem togM_le {f : Bool} {p q : Nat} {wa wb i j sh : Int} : togM f p q wa wb i j sh ≤ perM p q := cnt0_le
/-- exchanged sides -/
theorem togM_far {f : Bool} {p q : Nat} {wa wb i j : Int} : togM (!f) q p wb wa j i 0 = togM f p q wa wb i j 0 := by
  unfold togM togN
  rw [perM_comm]
  refine cnt0_congr fun n _ => ?_
  unfold bothF
  rw [rotA_not, rotB_not, Bool.and_comm, Int.add_zero, Int.add_zero]
/-- one player further, one rotation more -/
theorem togM_one {f : Bool} {p q : Nat} {wa wb i j : Int} : togM f p q wa wb ((i + 1) % p) j (1 % p) = togM f p q wa wb i j 0 := by
  unfold togM togN
  refine cnt0_congr fun n _ => ?_
  unfold bothF inF
  congr 2
  have e : ((i + 1) % (p : Int) - (rotA f (0 + (n : Int)) + 1 % (p : Int)) - 1) % (p : Int) = (i - (rotA f (0 + (n : Int)) + 0) - 1) % (p : Int) := by
    rw [Int.emod_def (i + 1), Int.emod_def 1]
    rw [show i + 1 - (p : Int) * ((i + 1) / p) - (rotA f (0 + n) + (1 - (p : Int) * (1 / p))) - 1 = i - (rotA f (0 + n) + 0) - 1 + (p : Int) * (1 / p - (i + 1) / p) by rw [Int.mul_sub]; omega]
    rw [Int.add_mul_emod_self_left]
  rw [e]
/-- all shifts' sum -/
def sumS (g : Int → Int) : Nat → Int
  | 0 => 0
  | k + 1 => sumS g k + g k
theorem sumS_map (g : Int → Int) : ∀ k : Nat, ((irg 0 k).map g).sum = sumS g k
  | 0 => by rw [irg_nil (by decide)]; rfl
  | k + 1 => by
    rw [show ((k + 1 : Nat) : Int) = (k : Int) + 1 by omega, irg_snoc (by omega), List.map_append, List.sum_append, sumS_map g k, sumS]
    simp
theorem sumS_add (g h : Int → Int) : ∀ k : Nat, sumS (fun i => g i + h i) k = sumS g k + sumS h k
  | 0 => rfl
  | k + 1 => by rw [sumS, sumS, sumS, sumS_add g h k]; omega
theorem sumS_zero : ∀ k : Nat, sumS (fun _ => 0) k = 0
  | 0 => rfl
  | k + 1 => by rw [sumS, sumS_zero k]; rfl
theorem sumS_cnt (h : Int → Bool) : ∀ k : Nat, sumS (fun i => if h i then 1 else 0) k = cnt0 h 0 k
  | 0 => rfl
  | k + 1 => by rw [sumS, cnt0, sumS_cnt h k, Int.zero_add]
theorem sum_tog {f : Bool} {p q : Nat} {wa wb i j : Int} (hp : 0 < p) (hw : 0 ≤ wa ∧ wa ≤ p) : ∀ m : Nat, sumS (fun sh => togN f p q wa wb i j sh m) p = wa * cnt0 (fun n => inF q (rotB f n) wb j) 0 m
  | 0 => by
    have : (fun sh => togN f p q wa wb i j sh 0) = fun _ => 0 := rfl
    rw [this, sumS_zero, cnt0, Int.mul_zero]
  | m + 1 => by
    have e : (fun sh => togN f p q wa wb i j sh (m + 1)) = fun sh => togN f p q wa wb i j sh m + (if bothF f p q wa wb i j sh m then 1 else 0) := funext fun sh => togN_succ
    rw [e, sumS_add, sum_tog hp hw m, cnt0, Int.mul_add, Int.zero_add]
    congr 1
    rw [sumS_cnt]
    by_cases h : inF q (rotB f m) wb j = true
    · have e2 : bothF f p q wa wb i j = fun sh n => inF p (rotA f n + sh) wa i && inF q (rotB f n) wb j := rfl
      have e3 : (fun sh => bothF f p q wa wb i j sh m) = fun sh => inF p (rotA f m + sh) wa i := funext fun sh => by
        unfold bothF; rw [h, Bool.and_true]
      have e4 : cnt0 (fun sh => inF p (rotA f m + sh) wa i) 0 p = wa := by
        have z := inF_cnt (a := p) (w := wa) (p := i - rotA f m) hp hw
        refine Eq.trans ?_ z
        refine cnt0_congr fun n _ => ?_
        unfold inF
        rw [show i - (rotA f m + (0 + (n : Int))) - 1 = i - rotA f m - (0 + (n : Int)) - 1 by omega]
      rw [if_pos h, Int.mul_one]
      exact (congrArg (fun z => cnt0 z 0 p) e3).trans e4
    · have h' : inF q (rotB f m) wb j = false := by simpa using h
      have e3 : (fun sh => bothF f p q wa wb i j sh m) = fun _ => false := funext fun sh => by
        unfold bothF; rw [h', Bool.and_false]
      rw [if_neg h, Int.mul_zero]
      refine (congrArg (fun z => cnt0 z 0 p) e3).trans ?_
      have z : ∀ n : Nat, cnt0 (fun _ => false) 0 n = 0 := fun n => by
        induction n with
        | zero => rfl
        | succ n ih => rw [cnt0, ih]; rfl
      exact z p
/-- one side's front over a whole period -/
theorem cnt_B {f : Bool} {p q : Nat} {wb j : Int} (hp : 0 < p) (hq : 0 < q) (hw : 0 ≤ wb ∧ wb ≤ q) : cnt0 (fun n => inF q (rotB f n) wb j) 0 (perM p q) * q = perM p q * wb := by
  have e : (fun n => inF q (rotB f n) wb j) = fun n => (fun x => inF q x wb j) (rotA (!f) n) := funext fun n => by rw [rotA_not]
  rw [e, perM_q hp, rot_cnt (g := fun x => inF q x wb j) (q := q) (fun x => inF_per q wb j x), inF_cnt hq hw]
  rw [Int.natCast_mul, Int.natCast_mul]
  generalize ((p / Nat.gcd p q : Nat) : Int) = k
  show 2 * (k * wb) * (q : Int) = 2 * (k * (q : Int)) * wb
  simp only [Int.mul_assoc, Int.mul_comm wb]
theorem cnt_A {f : Bool} {p q : Nat} {wa i sh : Int} (hp : 0 < p) (hq : 0 < q) (hw : 0 ≤ wa ∧ wa ≤ p) : cnt0 (fun n => inF p (rotA f n + sh) wa i) 0 (perM p q) * p = perM p q * wa := by
  have e : (fun n => inF p (rotA f n + sh) wa i) = fun n => (fun x => inF p x wa (i - sh)) (rotA f n) := funext fun n => by
    show inF p (rotA f n + sh) wa i = inF p (rotA f n) wa (i - sh)
    unfold inF
    rw [show i - (rotA f n + sh) - 1 = i - sh - rotA f n - 1 by omega]
  rw [e, perM_p hq, rot_cnt (g := fun x => inF p x wa (i - sh)) (q := p) (fun x => inF_per p wa _ x), inF_cnt hp hw]
  rw [Int.natCast_mul, Int.natCast_mul]
  generalize ((q / Nat.gcd p q : Nat) : Int) = k
  show 2 * (k * wa) * (p : Int) = 2 * (k * (p : Int)) * wa
  simp only [Int.mul_assoc, Int.mul_comm wa]
theorem sum_all {f : Bool} {p q : Nat} {wa wb i j : Int} (hp : 0 < p) (hq : 0 < q) (hwa : 0 ≤ wa ∧ wa ≤ p) (hwb : 0 ≤ wb ∧ wb ≤ q) : ((irg 0 p).map (togM f p q wa wb i j)).sum * q = perM p q * wa * wb := by
  rw [sumS_map]
  have e := sum_tog (f := f) (p := p) (q := q) (wa := wa) (wb := wb) (i := i) (j := j) hp hwa (perM p q)
  have e2 : togM f p q wa wb i j = fun sh => togN f p q wa wb i j sh (perM p q) := rfl
  rw [e2, e, Int.mul_assoc, cnt_B hp hq hwb]
  rw [← Int.mul_assoc, Int.mul_comm wa]
/-- the best so far -/
def bestN (g : Int → Int) : Nat → Int × Int
  | 0 => (0, 0)
  | k + 1 => if (bestN g k).1 < g k then (g k, (k : Int)) else bestN g k
theorem best_spec {g : Int → Int} (h0 : ∀ i, 0 ≤ g i) : ∀ k : Nat, (∀ i : Nat, i < k + 1 → g i ≤ (bestN g (k + 1)).1) ∧ ∃ j : Nat, j < k + 1 ∧ (bestN g (k + 1)).2 = j ∧ g j = (bestN g (k + 1)).1 ∧ ∀ m : Nat, m < j → g m < (bestN g (k + 1)).1
  | 0 => by
    have e : bestN g (0 + 1) = if (0 : Int) < g 0 then (g 0, 0) else (0, 0) := rfl
    have := h0 0
    by_cases h : (0 : Int) < g 0
    · rw [e, if_pos h]
      refine ⟨fun i hi => ?_, 0, Nat.lt_succ_self 0, rfl, rfl, fun m hm => absurd hm (Nat.not_lt_zero m)⟩
      have : i = 0 := by omega
      subst this; exact Int.le_refl _
    · rw [e, if_neg h]
      refine ⟨fun i hi => ?_, 0, Nat.lt_succ_self 0, rfl, ?_, fun m hm => absurd hm (Nat.not_lt_zero m)⟩
      · have : i = 0 := by omega
        subst this
        show g 0 ≤ 0
        omega
      · show g 0 = 0
        omega
  | k + 1 => by
    obtain ⟨ih1, j, hj, e2, e3, e4⟩ := best_spec h0 k
    have e : bestN g (k + 1 + 1) = if (bestN g (k + 1)).1 < g ((k + 1 : Nat) : Int) then (g ((k + 1 : Nat) : Int), ((k + 1 : Nat) : Int)) else bestN g (k + 1) := rfl
    by_cases h : (bestN g (k + 1)).1 < g ((k + 1 : Nat) : Int)
    · rw [e, if_pos h]
      refine ⟨fun i hi => ?_, k + 1, Nat.lt_succ_self _, rfl, rfl, fun m hm => ?_⟩
      · by_cases hi2 : i = k + 1
        · subst hi2; exact Int.le_refl _
        · have := ih1 i (by omega)
          show g i ≤ g ((k + 1 : Nat) : Int)
          omega
      · have := ih1 m hm
        show g m < g ((k + 1 : Nat) : Int)
        omega
    · rw [e, if_neg h]
      refine ⟨fun i hi => ?_, j, by omega, e2, e3, e4⟩
      by_cases hi2 : i = k + 1
      · subst hi2; omega
      · exact ih1 i (by omega)

/-! players in front, in order -/
theorem srt_uniq : ∀ {l m : List Int}, l.Pairwise (· < ·) → m.Pairwise (· < ·) → (∀ x, x ∈ l ↔ x ∈ m) → l = m
  | [], [], _, _, _ => rfl
  | [], y :: m, _, _, h => by have := (h y).mpr List.mem_cons_self; cases this
  | x :: l, [], _, _, h => by have := (h x).mp List.mem_cons_self; cases this
  | x :: l, y :: m, h1, h2, h => by
    obtain ⟨a1, a2⟩ := List.pairwise_cons.mp h1
    obtain ⟨b1, b2⟩ := List.pairwise_cons.mp h2
    have e : x = y := by
      have c1 := (h x).mp List.mem_cons_self
      have c2 := (h y).mpr List.mem_cons_self
      rcases List.mem_cons.mp c1 with e | c1
      · exact e
      · rcases List.mem_cons.mp c2 with e | c2
        · exact e.symm
        · have := a1 _ c2
          have := b1 _ c1
          omega
    subst e
    congr 1
    refine srt_uniq a2 b2 fun z => ?_
    constructor
    · intro hz
      rcases List.mem_cons.mp ((h z).mp (List.mem_cons_of_mem _ hz)) with e | c
      · have := a1 _ hz; omega
      · exact c
    · intro hz
      rcases List.mem_cons.mp ((h z).mpr (List.mem_cons_of_mem _ hz)) with e | c
      · have := b1 _ hz; omega
      · exact c
theorem irg_lt (lo hi : Int) : (irg lo hi).Pairwise (· < ·) := by
  unfold irg
  rw [List.pairwise_map]
  exact List.pairwise_lt_range.imp fun h => by omega
def frM (a t w : Int) : List Int := (irg 0 a).filter fun x => inF a t w x
theorem frM_mem {a t w x : Int} : x ∈ frM a t w ↔ (0 ≤ x ∧ x < a) ∧ inF a t w x = true := by
  unfold frM
  rw [List.mem_filter, mem_irg]
theorem frM_lt (a t w : Int) : (frM a t w).Pairwise (· < ·) := (irg_lt 0 a).sublist List.filter_sublist
theorem le_lt_of : ∀ {l : List Int}, l.Pairwise (· ≤ ·) → l.Nodup → l.Pairwise (· < ·) := fun h1 h2 => by
  have := List.Pairwise.and h1 h2
  exact this.imp fun h => by omega
theorem front_mem {a t w x : Int} (ha : 0 < a) (hw : w ≤ a) : (∃ s, (1 ≤ s ∧ s < w + 1) ∧ (t + s) % a = x) ↔ (0 ≤ x ∧ x < a) ∧ inF a t w x = true := by
  unfold inF
  rw [decide_eq_true_eq]
  constructor
  · rintro ⟨s, hs, rfl⟩
    refine ⟨⟨Int.emod_nonneg _ (by omega), Int.emod_lt_of_pos _ ha⟩, ?_⟩
    rw [Int.emod_def (t + s), show t + s - a * ((t + s) / a) - t - 1 = s - 1 + a * (-((t + s) / a)) by rw [Int.mul_neg]; omega, Int.add_mul_emod_self_left, Int.emod_eq_of_lt (by omega) (by omega)]
    omega
  · rintro ⟨hx, h⟩
    have h0 := Int.emod_nonneg (x - t - 1) (show a ≠ 0 by omega)
    refine ⟨(x - t - 1) % a + 1, ⟨by omega, by omega⟩, ?_⟩
    rw [Int.emod_def (x - t - 1), show t + (x - t - 1 - a * ((x - t - 1) / a) + 1) = x + a * (-((x - t - 1) / a)) by rw [Int.mul_neg]; omega, Int.add_mul_emod_self_left, Int.emod_eq_of_lt hx.1 hx.2]
theorem front_nodup {a t w : Int} (ha : 0 < a) (hw : w ≤ a) : ((irg 1 (w + 1)).map fun s => (t + s) % a).Nodup := by
  unfold List.Nodup
  rw [List.pairwise_map]
  refine List.Pairwise.imp_of_mem ?_ (irg_lt 1 (w + 1))
  intro x y hx hy hlt e
  have hx := mem_irg.mp hx
  have hy := mem_irg.mp hy
  have z : (y - x) % a = 0 := by
    have := Int.emod_eq_emod_iff_emod_sub_eq_zero.mp e.symm
    rw [show t + y - (t + x) = y - x by omega] at this
    exact this
  rw [Int.emod_eq_of_lt (by omega) (by omega)] at z
  omega
theorem front_srt {a t w : Int} (ha : 0 < a) (hw : w ≤ a) {ns : List Int} (hp : ns.Perm ((irg 1 (w + 1)).map fun s => (t + s) % a)) (hs : ns.Pairwise (· ≤ ·)) : ns = frM a t w := by
  refine srt_uniq (le_lt_of hs (hp.nodup_iff.mpr (front_nodup ha hw))) (frM_lt a t w) fun x => ?_
  rw [hp.mem_iff, frM_mem, ← front_mem ha hw, List.mem_map]
  constructor
  · rintro ⟨s, hs, e⟩; exact ⟨s, mem_irg.mp hs, e⟩
  · rintro ⟨s, hs, e⟩; exact ⟨s, mem_irg.mpr hs, e⟩
theorem inL_ints {x : Int} : ∀ {l : List Int}, DL.inF (.int x) (l.map D.int) = decide (x ∈ l)
  | [] => by simp [DL.inF]
  | y :: l => by
    have ih := inL_ints (x := x) (l := l)
    unfold DL.inF at ih ⊢
    rw [List.map_cons, List.any_cons, ih]
    show ((y == x) || decide (x ∈ l)) = _
    by_cases h : y = x
    · subst h; simp
    · have h2 : ¬ x = y := fun e => h e.symm
      simp [h, h2]
theorem frD_in {a t w x : Int} (h0 : 0 ≤ x) (h1 : x < a) : DL.inF (.int x) ((frM a t w).map D.int) = inF a t w x := by
  rw [inL_ints]
  cases h : inF a t w x with
  | true => exact decide_eq_true (frM_mem.mpr ⟨⟨h0, h1⟩, h⟩)
  | false => exact decide_eq_false fun z => by rw [(frM_mem.mp z).2] at h; cases h
theorem inF_full {a t x : Int} (ha : 0 < a) : inF a t a x = true := decide_eq_true (Int.emod_lt_of_pos _ ha)
theorem cnt0_all {h : Int → Bool} {a : Int} (e : ∀ x, h x = true) : ∀ n : Nat, cnt0 h a n = n
  | 0 => rfl
  | n + 1 => by rw [cnt0, cnt0_all e n, if_pos (e _)]; omega
theorem togM_full {f : Bool} {p q : Nat} {i j sh : Int} (hp : 0 < p) (hq : 0 < q) : togM f p q p q i j sh = perM p q := by
  unfold togM togN
  refine cnt0_all (fun x => ?_) _
  unfold bothF
  rw [inF_full (by omega), inF_full (by omega)]; rfl
theorem togM_A {f : Bool} {p q : Nat} {wa i j sh : Int} (hp : 0 < p) (hq : 0 < q) (hw : 0 ≤ wa ∧ wa ≤ p) : togM f p q wa q i j sh * p = perM p q * wa := by
  rw [← cnt_A (f := f) (i := i) (sh := sh) hp hq hw]
  unfold togM togN
  congr 1
  refine cnt0_congr fun n _ => ?_
  unfold bothF
  rw [inF_full (a := (q : Int)) (by omega), Bool.and_true]
/-- the moments -/
def momD (f : Bool) (i : Nat) : D := .tup [.int (rotA f i), .int (rotB f i)]
def momL (f : Bool) (n : Nat) : List D := (List.range n).map (momD f)
theorem momL_succ (f : Bool) (n : Nat) : momL f (n + 1) = momL f n ++ [momD f n] := by
  unfold momL
  rw [List.range_succ, List.map_append]; rfl
theorem momL_len (f : Bool) (n : Nat) : (momL f n).length = n := by unfold momL; rw [List.length_map, List.length_range]
theorem momL_get {f : Bool} {n i : Nat} {d : D} (h : (momL f n)[i]? = some d) : i < n ∧ d = momD f i := by
  unfold momL at h
  rw [List.getElem?_map] at h
  cases e : (List.range n)[i]? with
  | none => rw [e] at h; cases h
  | some j =>
    rw [e] at h
    obtain ⟨h1, h2⟩ := List.getElem?_eq_some_iff.mp e
    rw [List.getElem_range] at h2
    rw [List.length_range] at h1
    cases h
    subst h2
    exact ⟨h1, rfl⟩
/-- who serves after i changes -/
def srvAt (f : Bool) (i : Nat) : Bool := if i % 2 = 0 then f else !f
theorem srvAt_succ (f : Bool) (i : Nat) : srvAt f (i + 1) = !srvAt f i := by
  unfold srvAt
  by_cases h : i % 2 = 0
  · rw [if_pos h, if_neg (by omega)]
  · rw [if_neg h, if_pos (by omega), Bool.not_not]
theorem rot_succ (f : Bool) (i : Nat) : rotA f ((i + 1 : Nat) : Int) = rotA f i + (if srvAt f (i + 1) then 1 else 0) ∧ rotB f ((i + 1 : Nat) : Int) = rotB f i + (if srvAt f (i + 1) then 0 else 1) := by
  unfold rotA rotB srvAt
  cases f <;> by_cases h : (i + 1) % 2 = 0 <;> simp [h] <;> omega

/-! rotations that meet -/
theorem bez (a b : Nat) : ∃ x y : Int, (a : Int) * x + (b : Int) * y = (Nat.gcd a b : Nat) := by
  induction a, b using Nat.gcd.induction with
  | H0 n => exact ⟨0, 1, by rw [Nat.gcd_zero_left]; omega⟩
  | H1 m n hm ih =>
    obtain ⟨x, y, h⟩ := ih
    refine ⟨y - ((n / m : Nat) : Int) * x, x, ?_⟩
    rw [Nat.gcd_rec, ← h]
    have e : (n : Int) = ((n % m : Nat) : Int) + (m : Int) * ((n / m : Nat) : Int) := by
      have := Nat.mod_add_div n m
      rw [← Int.natCast_mul, ← Int.natCast_add]
      omega
    rw [e, Int.mul_sub, Int.add_mul, Int.mul_assoc]
    omega
/-- can they meet -/
def canM (f : Bool) (p q : Nat) (i j : Int) : Bool := decide ((j - i) % (Nat.gcd p q : Nat) = 0) || decide ((j - i) % (Nat.gcd p q : Nat) = (if f then 1 else -1) % (Nat.gcd p q : Nat))
theorem emod_sub_iff {a b g : Int} : a % g = b % g ↔ g ∣ a - b := by
  rw [Int.emod_eq_emod_iff_emod_sub_eq_zero]
  exact Int.dvd_iff_emod_eq_zero.symm
theorem canM_iff {f : Bool} {p q : Nat} {i j : Int} : canM f p q i j = true ↔ ((Nat.gcd p q : Nat) : Int) ∣ j - i ∨ ((Nat.gcd p q : Nat) : Int) ∣ j - i - (if f then 1 else -1) := by
  unfold canM
  rw [Bool.or_eq_true, decide_eq_true_eq, decide_eq_true_eq, ← Int.dvd_iff_emod_eq_zero, emod_sub_iff]
/-- some moment of the whole period -/
theorem crt {p q : Nat} (hp : 0 < p) (hq : 0 < q) {i j : Int} (h : ((Nat.gcd p q : Nat) : Int) ∣ j - i) : ∃ k : Nat, 2 * k < perM p q ∧ ((p : Int) ∣ (k : Int) - i) ∧ ((q : Int) ∣ (k : Int) - j) := by
  obtain ⟨x, y, e⟩ := bez p q
  obtain ⟨t, ht⟩ := h
  have hL : perM p q = 2 * (q / Nat.gcd p q * p) := perM_p hq
  have hL2 : perM p q = 2 * (p / Nat.gcd p q * q) := perM_q hp
  have hl1 : q / Nat.gcd p q * p = p / Nat.gcd p q * q := by omega
  have hpos : 0 < q / Nat.gcd p q * p := Nat.mul_pos (Nat.div_pos (Nat.gcd_le_right _ hq) (Nat.gcd_pos_of_pos_left _ hp)) hp
  have hn := Int.emod_nonneg (i + p * (x * t)) (show ((q / Nat.gcd p q * p : Nat) : Int) ≠ 0 by omega)
  have hlt := Int.emod_lt_of_pos (i + p * (x * t)) (show (0 : Int) < ((q / Nat.gcd p q * p : Nat) : Int) by omega)
  obtain ⟨k, hk⟩ := Int.eq_ofNat_of_zero_le hn
  refine ⟨k, by omega, ?_, ?_⟩
  · rw [← hk, Int.emod_def, Int.natCast_mul]
    refine ⟨x * t - ((q / Nat.gcd p q : Nat) : Int) * ((i + p * (x * t)) / (((q / Nat.gcd p q : Nat) : Int) * (p : Int))), ?_⟩
    rw [Int.mul_sub, ← Int.mul_assoc (p : Int) ((q / Nat.gcd p q : Nat) : Int), Int.mul_comm (p : Int) ((q / Nat.gcd p q : Nat) : Int)]
    omega
  · rw [← hk, Int.emod_def, hl1, Int.natCast_mul]
    refine ⟨- (y * t) - ((p / Nat.gcd p q : Nat) : Int) * ((i + p * (x * t)) / (((p / Nat.gcd p q : Nat) : Int) * (q : Int))), ?_⟩
    have e2 : (p : Int) * (x * t) + (q : Int) * (y * t) = j - i := by
      rw [← Int.mul_assoc, ← Int.mul_assoc, ← Int.add_mul, e, ht]
    rw [Int.mul_sub, ← Int.mul_assoc (q : Int) ((p / Nat.gcd p q : Nat) : Int), Int.mul_comm (q : Int) ((p / Nat.gcd p q : Nat) : Int), Int.mul_neg]
    omega
theorem dvd_self_sub (n : Int) (p : Int) : p ∣ n - n % p := ⟨n / p, by rw [Int.emod_def]; omega⟩
theorem emod_of_dvd {k i p : Int} (h : p ∣ k - i) (h0 : 0 ≤ i) (h1 : i < p) : k % p = i := by
  have : k % p = i % p := emod_sub_iff.mpr h
  rw [this, Int.emod_eq_of_lt h0 h1]
/-- they meet at some moment exactly if they can -/
theorem meet_iff {f : Bool} {p q : Nat} {i j : Int} (hp : 0 < p) (hq : 0 < q) (hi : 0 ≤ i ∧ i < p) (hj : 0 ≤ j ∧ j < q) : (∃ m : Nat, m < perM p q ∧ rotA f m % p = i ∧ rotB f m % q = j) ↔ canM f p q i j = true := by
  rw [canM_iff]
  have gp : ((Nat.gcd p q : Nat) : Int) ∣ p := Int.natCast_dvd_natCast.mpr (Nat.gcd_dvd_left p q)
  have gq : ((Nat.gcd p q : Nat) : Int) ∣ q := Int.natCast_dvd_natCast.mpr (Nat.gcd_dvd_right p q)
  have hpe : ∃ L, perM p q = 2 * L := ⟨_, perM_q hp⟩
  constructor
  · rintro ⟨m, hm, e1, e2⟩
    have d1 := Int.dvd_trans gp (dvd_self_sub (rotA f m) p)
    have d2 := Int.dvd_trans gq (dvd_self_sub (rotB f m) q)
    rw [e1] at d1
    rw [e2] at d2
    obtain ⟨u, hu⟩ := d1
    obtain ⟨v, hv⟩ := d2
    by_cases h : m % 2 = 0
    · left
      have e : rotA f m = rotB f m := by unfold rotA rotB; cases f <;> simp <;> omega
      exact ⟨u - v, by rw [Int.mul_sub]; omega⟩
    · right
      have e : rotB f m = rotA f m + (if f then 1 else -1) := by unfold rotA rotB; cases f <;> simp <;> omega
      exact ⟨u - v, by rw [Int.mul_sub]; omega⟩
  · rintro (h | h)
    · obtain ⟨k, hk, d1, d2⟩ := crt hp hq h
      refine ⟨2 * k, hk, ?_, ?_⟩
      · rw [show rotA f ((2 * k : Nat) : Int) = k by unfold rotA; cases f <;> simp <;> omega]
        exact emod_of_dvd d1 hi.1 hi.2
      · rw [show rotB f ((2 * k : Nat) : Int) = k by unfold rotB; cases f <;> simp <;> omega]
        exact emod_of_dvd d2 hj.1 hj.2
    · obtain ⟨L, hL⟩ := hpe
      cases f with
      | true =>
        rw [if_pos rfl] at h
        obtain ⟨k, hk, d1, d2⟩ := crt (i := i) (j := j - 1) hp hq (by rw [show j - 1 - i = j - i - 1 by omega]; exact h)
        refine ⟨2 * k + 1, by omega, ?_, ?_⟩
        · rw [show rotA true ((2 * k + 1 : Nat) : Int) = k by unfold rotA; simp; omega]
          exact emod_of_dvd d1 hi.1 hi.2
        · rw [show rotB true ((2 * k + 1 : Nat) : Int) = (k : Int) + 1 by unfold rotB; simp; omega]
          exact emod_of_dvd (by rw [show (k : Int) + 1 - j = k - (j - 1) by omega]; exact d2) hj.1 hj.2
      | false =>
        rw [if_neg (by decide)] at h
        obtain ⟨k, hk, d1, d2⟩ := crt (i := i - 1) (j := j) hp hq (by rw [show j - (i - 1) = j - i - -1 by omega]; exact h)
        refine ⟨2 * k + 1, by omega, ?_, ?_⟩
        · rw [show rotA false ((2 * k + 1 : Nat) : Int) = (k : Int) + 1 by unfold rotA; simp; omega]
          exact emod_of_dvd (by rw [show (k : Int) + 1 - i = k - (i - 1) by omega]; exact d1) hi.1 hi.2
        · rw [show rotB false ((2 * k + 1 : Nat) : Int) = k by unfold rotB; simp; omega]
          exact emod_of_dvd d2 hj.1 hj.2
/-- all pairs that meet -/
def mtL (f : Bool) (p q : Nat) : List (Int × Int) := (irg 0 p).flatMap fun i => ((irg 0 q).filter (canM f p q i)).map fun j => (i, j)
theorem mtL_D (f : Bool) (p q : Nat) : rows2 p q (canM f p q) (fun i j => DL.pairD (i, j)) = (mtL f p q).map DL.pairD := by
  unfold rows2 mtL
  rw [List.map_flatMap]
  congr 1
  funext i
  rw [List.map_map]; rfl
theorem mtL_mem {f : Bool} {p q : Nat} {x : Int × Int} : x ∈ mtL f p q ↔ (0 ≤ x.1 ∧ x.1 < p) ∧ (0 ≤ x.2 ∧ x.2 < q) ∧ canM f p q x.1 x.2 = true := by
  unfold mtL
  rw [List.mem_flatMap]
  constructor
  · rintro ⟨i, hi, h⟩
    obtain ⟨j, hj, rfl⟩ := List.mem_map.mp h
    obtain ⟨h1, h2⟩ := List.mem_filter.mp hj
    exact ⟨mem_irg.mp hi, mem_irg.mp h1, h2⟩
  · rintro ⟨h1, h2, h3⟩
    exact ⟨x.1, mem_irg.mpr h1, List.mem_map.mpr ⟨x.2, List.mem_filter.mpr ⟨mem_irg.mpr h2, h3⟩, rfl⟩⟩
theorem mtL_lt (f : Bool) (p q : Nat) : (mtL f p q).Pairwise ltL := by
  unfold mtL
  rw [List.pairwise_flatMap]
  refine ⟨fun i _ => ?_, (irg_lt 0 p).imp fun {i i'} h x hx y hy => ?_⟩
  · rw [List.pairwise_map]
    exact ((irg_lt 0 q).sublist List.filter_sublist).imp fun h => .inr ⟨rfl, h⟩
  · obtain ⟨j, _, rfl⟩ := List.mem_map.mp hx
    obtain ⟨j', _, rfl⟩ := List.mem_map.mp hy
    exact .inl h
theorem cnt_filter (h : Int → Bool) : ∀ n : Nat, (((irg 0 (n : Int)).filter h).length : Int) = cnt0 h 0 n
  | 0 => by rw [irg_nil (by omega)]; rfl
  | n + 1 => by
    rw [show ((n + 1 : Nat) : Int) = (n : Int) + 1 by omega, irg_snoc (by omega), List.filter_append, List.length_append, cnt0, ← cnt_filter h n, Int.zero_add, List.filter_cons]
    split <;> simp
theorem cnt0_or {h k : Int → Bool} {a : Int} : ∀ {n : Nat}, (∀ i : Nat, i < n → ¬ (h (a + i) = true ∧ k (a + i) = true)) → cnt0 (fun x => h x || k x) a n = cnt0 h a n + cnt0 k a n
  | 0, _ => rfl
  | n + 1, e => by
    rw [cnt0, cnt0, cnt0, cnt0_or fun i hi => e i (Nat.lt_succ_of_lt hi)]
    have t := e n (Nat.lt_succ_self n)
    cases h1 : h (a + n) <;> cases h2 : k (a + n)
    · simp
    · simp; omega
    · simp; omega
    · exact (t ⟨h1, h2⟩).elim
theorem cnt0_pt {c : Int} : ∀ {n : Nat}, cnt0 (fun x => decide (x = c)) 0 n = if 0 ≤ c ∧ c < n then 1 else 0
  | 0 => by rw [cnt0, if_neg (by omega)]
  | n + 1 => by
    rw [cnt0, cnt0_pt, Int.zero_add]
    simp only [decide_eq_true_eq]
    by_cases h : 0 ≤ c ∧ c < (n : Int)
    · rw [if_pos h, if_neg (by omega), if_pos (by omega)]; rfl
    · rw [if_neg h]
      by_cases h2 : (n : Int) = c
      · rw [if_pos h2, if_pos (by omega)]; rfl
      · rw [if_neg h2, if_neg (by omega)]; rfl
theorem can_cnt {f : Bool} {p q : Nat} (hp : 0 < p) (hq : 0 < q) (i : Int) : cnt0 (canM f p q i) 0 q = ((q / Nat.gcd p q : Nat) : Int) * (if Nat.gcd p q = 1 then 1 else 2) := by
  have hg : 0 < Nat.gcd p q := Nat.gcd_pos_of_pos_left _ hp
  have hd : q / Nat.gcd p q * Nat.gcd p q = q := Nat.div_mul_cancel (Nat.gcd_dvd_right p q)
  have hper : ∀ x, canM f p q i (x + (Nat.gcd p q : Nat)) = canM f p q i x := fun x => by
    unfold canM
    rw [show x + ((Nat.gcd p q : Nat) : Int) - i = x - i + ((Nat.gcd p q : Nat) : Int) by omega, Int.add_emod_right]
  have e := cnt0_mul hper 0 (q / Nat.gcd p q)
  rw [hd] at e
  rw [e, ← cnt0_any hper i]
  congr 1
  have e2 : cnt0 (canM f p q i) i (Nat.gcd p q) = cnt0 (fun x => decide (x = 0) || decide (x = (if f then 1 else -1) % ((Nat.gcd p q : Nat) : Int))) 0 (Nat.gcd p q) := by
    have key : ∀ n : Nat, n ≤ Nat.gcd p q → cnt0 (canM f p q i) i n = cnt0 (fun x => decide (x = 0) || decide (x = (if f then 1 else -1) % ((Nat.gcd p q : Nat) : Int))) 0 n := fun n => by
      induction n with
      | zero => intro _; rfl
      | succ n ih =>
        intro hn
        rw [cnt0, cnt0, ih (by omega), Int.zero_add]
        unfold canM
        rw [show i + (n : Int) - i = n by omega, Int.emod_eq_of_lt (a := (n : Int)) (by omega) (by omega)]
    exact key _ (Nat.le_refl _)
  rw [e2]
  by_cases h1 : Nat.gcd p q = 1
  · rw [if_pos h1, h1]
    cases f <;> decide +kernel
  · rw [if_neg h1]
    have hc : 0 < (if f = true then (1 : Int) else -1) % ((Nat.gcd p q : Nat) : Int) ∧ (if f = true then (1 : Int) else -1) % ((Nat.gcd p q : Nat) : Int) < (Nat.gcd p q : Nat) := by
      have h0 := Int.emod_nonneg (if f = true then (1 : Int) else -1) (show ((Nat.gcd p q : Nat) : Int) ≠ 0 by omega)
      have hl := Int.emod_lt_of_pos (if f = true then (1 : Int) else -1) (show (0 : Int) < ((Nat.gcd p q : Nat) : Int) by omega)
      refine ⟨?_, hl⟩
      by_cases hz : (if f = true then (1 : Int) else -1) % ((Nat.gcd p q : Nat) : Int) = 0
      · exfalso
        obtain ⟨c, hc⟩ := Int.dvd_iff_emod_eq_zero.mpr hz
        have : ((Nat.gcd p q : Nat) : Int) ∣ 1 := by
          cases f with
          | true => exact ⟨c, hc⟩
          | false => exact ⟨-c, by rw [Int.mul_neg, ← hc]; rfl⟩
        have := Int.natCast_dvd_natCast.mp (show ((Nat.gcd p q : Nat) : Int) ∣ ((1 : Nat) : Int) from this)
        exact h1 (Nat.dvd_one.mp this)
      · omega
    generalize (if f = true then (1 : Int) else -1) % ((Nat.gcd p q : Nat) : Int) = c at hc
    rw [cnt0_or fun n _ h => by
      have a1 := of_decide_eq_true h.1
      have a2 := of_decide_eq_true h.2
      omega, cnt0_pt, cnt0_pt, if_pos (by omega), if_pos (by omega)]; rfl
theorem mtL_len {f : Bool} {p q : Nat} (hp : 0 < p) (hq : 0 < q) : ((mtL f p q).length : Int) = p * (((q / Nat.gcd p q : Nat) : Int) * (if Nat.gcd p q = 1 then 1 else 2)) := by
  have key : ∀ l : List Int, (((l.flatMap fun i => ((irg 0 q).filter (canM f p q i)).map fun j => ((i, j) : Int × Int)).length : Nat) : Int) = l.length * (((q / Nat.gcd p q : Nat) : Int) * (if Nat.gcd p q = 1 then 1 else 2)) := fun l => by
    induction l with
    | nil => simp
    | cons i l ih =>
      rw [List.flatMap_cons, List.length_append, List.length_map, Int.natCast_add, ih, cnt_filter, can_cnt hp hq, List.length_cons]
      rw [show ((l.length + 1 : Nat) : Int) = (l.length : Int) + 1 by omega, Int.add_mul, Int.one_mul]
      omega
  unfold mtL
  rw [key, irg_len]
  congr 1
/-- their number -/
theorem mtL_cnt {f : Bool} {p q : Nat} (hp : 0 < p) (hq : 0 < q) : ((mtL f p q).length : Int) = min ((p : Int) * q) (perM p q : Nat) ∧ ((mtL f p q).length : Int) = if Nat.gcd p q = 1 then (p : Int) * q else (perM p q : Nat) := by
  have hg : 0 < Nat.gcd p q := Nat.gcd_pos_of_pos_left _ hp
  have hd : q / Nat.gcd p q * Nat.gcd p q = q := Nat.div_mul_cancel (Nat.gcd_dvd_right p q)
  have e := mtL_len (f := f) hp hq
  have eP : ((perM p q : Nat) : Int) = 2 * ((p : Int) * ((q / Nat.gcd p q : Nat) : Int)) := by
    rw [perM_p hq, Nat.mul_comm (q / Nat.gcd p q)]
    rfl
  by_cases h1 : Nat.gcd p q = 1
  · rw [if_pos h1] at e ⊢
    rw [h1, Nat.div_one] at e eP
    rw [Int.mul_one] at e
    have hpq : 0 ≤ (p : Int) * q := Int.mul_nonneg (by omega) (by omega)
    omega
  · rw [if_neg h1] at e ⊢
    have e3 : ((mtL f p q).length : Int) = (perM p q : Nat) := by rw [e, eP, ← Int.mul_assoc]; omega
    have hle : ((perM p q : Nat) : Int) ≤ (p : Int) * q := by
      have e4 : (p : Int) * (q : Int) = (p : Int) * ((q / Nat.gcd p q : Nat) : Int) * ((Nat.gcd p q : Nat) : Int) := by
        rw [Int.mul_assoc, show ((q / Nat.gcd p q : Nat) : Int) * ((Nat.gcd p q : Nat) : Int) = q by rw [← Int.natCast_mul, hd]]
      have hn : 0 ≤ (p : Int) * ((q / Nat.gcd p q : Nat) : Int) := Int.mul_nonneg (by omega) (Int.natCast_nonneg _)
      have : (p : Int) * ((q / Nat.gcd p q : Nat) : Int) * 2 ≤ (p : Int) * ((q / Nat.gcd p q : Nat) : Int) * ((Nat.gcd p q : Nat) : Int) := Int.mul_le_mul_of_nonneg_left (by omega) hn
      omega
    omega

/-! ranges of serve changes, rotations at an entry -/
def hdI (l : List Int) : Int := l.headD 0
def lsI (l : List Int) : Int := l.getLastD 0
def lowN (M : List (List Int)) (i : Nat) : Int := ((M.take i).map hdI).sum
def highN (M : List (List Int)) (i : Nat) : Int := ((M.take i).map lsI).sum
def rngP (M : List (List Int)) (n : Nat) : List (Int × Int) := (List.range n).map fun i => (lowN M (i + 1), highN M (i + 1))
def chR (f : Bool) (L : List En) : List (Int × Int) := if fitM f L then rngP (ccL f L) L.length else []
theorem rngP_len (M : List (List Int)) (n : Nat) : (rngP M n).length = n := by unfold rngP; rw [List.length_map, List.length_range]
theorem rngP_succ (M : List (List Int)) (n : Nat) : rngP M (n + 1) = rngP M n ++ [(lowN M (n + 1), highN M (n + 1))] := by
  unfold rngP; rw [List.range_succ, List.map_append]; rfl
theorem lowN_succ {M : List (List Int)} {i : Nat} {l : List Int} (h : M[i]? = some l) : lowN M (i + 1) = lowN M i + hdI l ∧ highN M (i + 1) = highN M i + lsI l := by
  unfold lowN highN
  rw [take_snoc h, List.map_append, List.map_append, List.sum_append, List.sum_append]
  exact ⟨by simp, by simp⟩
theorem ccL_len (f : Bool) (L : List En) : (ccL f L).length = L.length := by unfold ccL; rw [List.length_zipWith, stepsF_len]; omega
theorem fit_ne {f : Bool} {L : List En} (h : fitM f L = true) {l : List Int} (hl : l ∈ ccL f L) : l ≠ [] := by
  unfold fitM fwM at h
  rw [Option.isNone_iff_eq_none, List.findIdx?_eq_none_iff] at h
  intro e
  have := h l hl
  rw [e] at this
  cases this
theorem hd_at {l : List Int} (h : l ≠ []) : atI (l.map D.int) 0 = some (.int (hdI l)) := by
  cases l with
  | nil => exact (h rfl).elim
  | cons x r => exact at0
theorem ls_at {l : List Int} (h : l ≠ []) : atI (l.map D.int) (-1) = some (.int (lsI l)) := by
  refine at_map (at_neg1 ?_)
  unfold lsI
  rw [List.getLastD_eq_getLast?, List.getLast?_eq_getElem?]
  have : l.length - 1 < l.length := by have := List.length_pos_iff.mpr h; omega
  rw [List.getElem?_eq_getElem this]; rfl
theorem cc_bd {e st : En} (h : 0 ≤ st.a ∧ st.a ≤ 300 ∧ 0 ≤ st.b ∧ st.b ≤ 300) {x : Int} (hx : x ∈ ccE e st) : 0 ≤ x ∧ x ≤ 601 := by
  unfold ccE ccF ccM at hx
  have key : ∀ (b : Bool) (own far : Int), own ≤ 300 → x ∈ (if b = true then (if far = 0 then [0] else (irg 1 (min own far + 1)).map fun t => 2 * t) else (irg 0 (min own (far - 1) + 1)).map fun t => 2 * t + 1) → 0 ≤ x ∧ x ≤ 601 := fun b own far ho hx => by
    split at hx
    · split at hx
      · rw [List.mem_singleton.mp hx]; omega
      · obtain ⟨t, ht, rfl⟩ := List.mem_map.mp hx
        have := mem_irg.mp ht
        omega
    · obtain ⟨t, ht, rfl⟩ := List.mem_map.mp hx
      have := mem_irg.mp ht
      omega
  split at hx
  · exact key _ _ _ h.2.1 hx
  · exact key _ _ _ h.2.2.2 hx
theorem ccL_bd {f : Bool} {L : List En} (h : OkSh f L) {l : List Int} (hl : l ∈ ccL f L) {x : Int} (hx : x ∈ l) : 0 ≤ x ∧ x ≤ 601 := by
  obtain ⟨i, hi⟩ := List.getElem?_of_mem hl
  unfold ccL at hi
  rw [List.getElem?_zipWith] at hi
  cases h1 : L[i]? with
  | none => rw [h1] at hi; cases hi
  | some e =>
    cases h2 : (stepsF f L)[i]? with
    | none => rw [h1, h2] at hi; cases hi
    | some st =>
      rw [h1, h2] at hi
      cases hi
      have a := okSh_st h st (List.mem_of_getElem? h2)
      have b := h.2.2 st (List.mem_of_getElem? h2)
      unfold OkE at a
      exact cc_bd ⟨b.1, a.2.1, b.2, a.2.2.2⟩ hx
theorem hd_mem {l : List Int} (h : l ≠ []) : hdI l ∈ l ∧ lsI l ∈ l := by
  cases l with
  | nil => exact (h rfl).elim
  | cons x r =>
    refine ⟨List.mem_cons_self, ?_⟩
    unfold lsI
    rw [List.getLastD_cons]
    cases r with
    | nil => exact List.mem_cons_self
    | cons y r => 
      rw [List.getLastD_eq_getLast?]
      cases e : (y :: r).getLast? with
      | none => simp at e
      | some z => exact List.mem_cons_of_mem _ (List.mem_of_getLast? e)
theorem low_bd {f : Bool} {L : List En} (h : OkSh f L) (hf : fitM f L = true) : ∀ i : Nat, i ≤ L.length → (0 ≤ lowN (ccL f L) i ∧ lowN (ccL f L) i ≤ 601 * i) ∧ 0 ≤ highN (ccL f L) i ∧ highN (ccL f L) i ≤ 601 * i
  | 0, _ => ⟨⟨Int.le_refl _, Int.le_refl _⟩, Int.le_refl _, Int.le_refl _⟩
  | i + 1, hi => by
    have ih := low_bd h hf i (by omega)
    have hl : (ccL f L)[i]? = some ((ccL f L)[i]'(by rw [ccL_len]; omega)) := List.getElem?_eq_getElem _
    generalize (ccL f L)[i]'(by rw [ccL_len]; omega) = l at hl
    have e := lowN_succ hl
    have hm := List.mem_of_getElem? hl
    have hne := fit_ne hf hm
    have b1 := ccL_bd h hm (hd_mem hne).1
    have b2 := ccL_bd h hm (hd_mem hne).2
    rw [e.1, e.2]
    refine ⟨⟨by omega, by omega⟩, by omega, by omega⟩
/-- the rotations' remainders after n changes -/
def rotP (f : Bool) (p q : Nat) (n : Int) : Int × Int := (rotA f n % p, rotB f n % q)
def evs (f : Bool) (L : List En) (k : Nat) : List Int := irgC (lowN (ccL f L) (k + 1)) 2 ((highN (ccL f L) (k + 1) + 1 - lowN (ccL f L) (k + 1) + 1) / 2).toNat
def ksN (f : Bool) (p q : Nat) (l : List Int) : List (Int × Int) := l.foldl (fun ps n => addK ps (rotP f p q n)) []
theorem ksN_snoc (f : Bool) (p q : Nat) (l : List Int) (n : Int) : ksN f p q (l ++ [n]) = addK (ksN f p q l) (rotP f p q n) := by unfold ksN; rw [List.foldl_append]; rfl
theorem ksN_mem {f : Bool} {p q : Nat} {l : List Int} {x : Int × Int} : x ∈ ksN f p q l ↔ ∃ n ∈ l, x = rotP f p q n := by
  suffices h : ∀ (l : List Int) (ps : List (Int × Int)), x ∈ l.foldl (fun ps n => addK ps (rotP f p q n)) ps ↔ x ∈ ps ∨ ∃ n ∈ l, x = rotP f p q n by
    unfold ksN; rw [h]; simp
  intro l
  induction l with
  | nil => intro ps; simp
  | cons n l ih =>
    intro ps
    rw [List.foldl_cons, ih, addK_mem]
    simp only [List.mem_cons, exists_eq_or_imp]
    constructor
    · rintro ((h | h) | h)
      · exact .inl h
      · exact .inr (.inl h)
      · exact .inr (.inr h)
    · rintro (h | h | h)
      · exact .inl (.inl h)
      · exact .inl (.inr h)
      · exact .inr h
theorem ksN_nodup (f : Bool) (p q : Nat) (l : List Int) : (ksN f p q l).Nodup := by
  unfold ksN
  suffices h : ∀ (l : List Int) (ps : List (Int × Int)), ps.Nodup → (l.foldl (fun ps n => addK ps (rotP f p q n)) ps).Nodup from h l [] List.nodup_nil
  intro l
  induction l with
  | nil => intro ps h; exact h
  | cons n l ih => intro ps h; exact ih _ (addK_nodup h)
theorem ksN_len (f : Bool) (p q : Nat) (l : List Int) : (ksN f p q l).length ≤ l.length := by
  unfold ksN
  suffices h : ∀ (l : List Int) (ps : List (Int × Int)), (l.foldl (fun ps n => addK ps (rotP f p q n)) ps).length ≤ ps.length + l.length by
    have := h l []
    simpa using this
  intro l
  induction l with
  | nil => intro ps; simp
  | cons n l ih =>
    intro ps
    have := ih (addK ps (rotP f p q n))
    have := addK_len (ps := ps) (x := rotP f p q n)
    rw [List.foldl_cons, List.length_cons]
    omega
theorem evs_bd {f : Bool} {L : List En} {k i : Nat} {n B : Int} (hb : (0 ≤ lowN (ccL f L) (k + 1) ∧ lowN (ccL f L) (k + 1) ≤ B) ∧ 0 ≤ highN (ccL f L) (k + 1) ∧ highN (ccL f L) (k + 1) ≤ B) (h : (evs f L k)[i]? = some n) : (0 ≤ n ∧ n ≤ B + 1) ∧ (i : Int) < n + 1 ∧ (i : Int) ≤ B := by
  unfold evs irgC at h
  rw [List.getElem?_map] at h
  cases e : (List.range ((highN (ccL f L) (k + 1) + 1 - lowN (ccL f L) (k + 1) + 1) / 2).toNat)[i]? with
  | none => rw [e] at h; cases h
  | some m =>
    rw [e] at h
    obtain ⟨h1, h2⟩ := List.getElem?_eq_some_iff.mp e
    rw [List.getElem_range] at h2
    rw [List.length_range] at h1
    subst h2
    have h : lowN (ccL f L) (k + 1) + (i : Int) * 2 = n := Option.some.inj h
    omega
def sp_change_ranges : DSp := fun ds S Q => ∃ f L, ds = [.str (sd f), .tup (L.map En.D)] ∧ OkSh f L ∧ Q (.lst ((chR f L).map DL.pairD)) S
def sp_rotations_at : DSp := fun ds S Q => ∃ (f : Bool) (p q : Nat) (L : List En) (k : Nat), ds = [.tup [.int p, .int q], .str (sd f), .tup (L.map En.D), .int k] ∧ (0 < p ∧ 0 < q) ∧ OkSh f L ∧ k < L.length ∧
  ∀ ps : List (Int × Int), ps.length ≤ 1000000 → ps.Pairwise ltL → (∀ x, x ∈ ps ↔ fitM f L = true ∧ ∃ n ∈ evs f L k, x = rotP f p q n) → Q (.lst (ps.map DL.pairD)) S

theorem foldl_ind {P : S5 → Prop} : ∀ (v : List Bool) (n : S5), P n → (∀ m b, P m → P (m.next b)) → P (v.foldl S5.next n)
  | [], n, h, _ => h
  | b :: v, n, h, k => foldl_ind v (n.next b) (k n b h) k
/-- what holds between a state and a later one -/
def Rc (n m : S5) : Prop := n.a ≤ m.a ∧ n.b ≤ m.b ∧
  ((m.x + m.y - n.x - n.y) % 2 = 0 ↔ m.s = n.s) ∧ 0 ≤ m.x + m.y - n.x - n.y ∧
  (m.x + m.y - n.x - n.y) / 2 ≤ (if n.s then m.a - n.a else m.b - n.b) ∧ (m.x + m.y - n.x - n.y + 1) / 2 ≤ (if n.s then m.b - n.b else m.a - n.a) ∧
  (1 ≤ (if n.s then m.b - n.b else m.a - n.a) → 1 ≤ m.x + m.y - n.x - n.y) ∧ (m = n ∨ 1 ≤ (if m.s then m.a - n.a else m.b - n.b))
theorem Rc.refl (n : S5) : Rc n n := by
  obtain ⟨a, b, s, x, y⟩ := n
  unfold Rc
  simp only
  rw [show x + y - x - y = 0 by omega]
  exact ⟨by omega, by omega, by simp, by omega, by split <;> omega, by split <;> omega, by split <;> omega, .inl trivial⟩
theorem Rc.next {n m : S5} (b : Bool) (h : Rc n m) : Rc n (m.next b) := by
  obtain ⟨a, b0, s, x, y⟩ := n
  obtain ⟨a2, b2, t, x2, y2⟩ := m
  obtain ⟨h1, h2, h3, h4, h5, h6, h7, h8⟩ := h
  simp only at h1 h2 h3 h4 h5 h6 h7
  have h9 : (a2 = a ∧ b2 = b0 ∧ t = s ∧ x2 = x ∧ y2 = y) ∨ 1 ≤ (if t then a2 - a else b2 - b0) := by
    rcases h8 with h8 | h8
    · cases h8; exact .inl ⟨rfl, rfl, rfl, rfl, rfl⟩
    · exact .inr h8
  clear h8
  unfold Rc S5.next
  cases b <;> cases s <;> cases t <;> simp at h3 h5 h6 h7 h9 ⊢ <;> omega
theorem rc_of (n : S5) (v : List Bool) : Rc n (v.foldl S5.next n) := foldl_ind v n (Rc.refl n) fun m b => Rc.next b
theorem stM_split {f : Bool} {w : List Bool} {i j : Nat} (h : i ≤ j) : Rc (stM f (w.take i)) (stM f (w.take j)) := by
  have e : w.take j = w.take i ++ (w.take j).drop i := by
    have := (List.take_append_drop i (w.take j)).symm
    rw [List.take_take, Nat.min_eq_left h] at this
    exact this
  rw [e]
  show Rc _ (List.foldl _ _ _)
  rw [List.foldl_append]
  exact rc_of _ _
def enO (n : S5) : En := ⟨n.a, n.b, n.s⟩
theorem mem_ccM {e : Bool} {own far c : Int} (h0 : 0 ≤ c) (h1 : c % 2 = 0 ↔ e = true) (h2 : c / 2 ≤ own) (h3 : (c + 1) / 2 ≤ far) (h4 : 1 ≤ far → 1 ≤ c) : c ∈ ccM e own far := by
  unfold ccM
  cases e with
  | true =>
    have p := h1.mpr rfl
    rw [if_pos rfl]
    by_cases hf : far = 0
    · rw [if_pos hf]
      exact List.mem_singleton.mpr (by omega)
    · rw [if_neg hf]
      exact List.mem_map.mpr ⟨c / 2, mem_irg.mpr (by omega), by omega⟩
  | false =>
    have p : ¬ c % 2 = 0 := fun z => Bool.noConfusion (h1.mp z)
    rw [if_neg (by decide)]
    exact List.mem_map.mpr ⟨c / 2, mem_irg.mpr (by omega), by omega⟩
theorem cc_mem {n m : S5} (h : Rc n m) : (m.x + m.y - n.x - n.y) ∈ ccE (enO m) ((enO m).sub (enO n)) := by
  obtain ⟨a, b0, s, x, y⟩ := n
  obtain ⟨a2, b2, t, x2, y2⟩ := m
  obtain ⟨h1, h2, h3, h4, h5, h6, h7, h8⟩ := h
  show _ ∈ ccF s (a2 - a) (b2 - b0) t
  unfold ccF
  cases s with
  | true =>
    rw [if_pos rfl]
    exact mem_ccM h4 (by simp at h3 ⊢; exact h3) h5 h6 h7
  | false =>
    rw [if_neg (by decide)]
    exact mem_ccM h4 (by simp at h3 ⊢; exact h3) h5 h6 h7
/-- one entry's factor -/
def valE (p e : En) : Int := if (ccE e (e.sub p)).isEmpty then 0 else oneE e (e.sub p)
def prodR : En → List En → Int
  | _, [] => 1
  | p, e :: r => valE p e * prodR e r
theorem foldl_mul : ∀ (l : List Int) (a : Int), l.foldl (fun t x => t * x) a = a * prodE l
  | [], a => by show a = a * 1; omega
  | x :: l, a => by
    show l.foldl _ (a * x) = a * (l.foldl _ (1 * x))
    rw [foldl_mul l (a * x), foldl_mul l (1 * x), Int.one_mul, Int.mul_assoc]
def fitG : En → List En → Bool
  | _, [] => true
  | p, e :: r => !(ccE e (e.sub p)).isEmpty && fitG e r
theorem fitG_all : ∀ (L : List En) (p : En), ((List.zipWith ccE L (List.zipWith En.sub L (p :: L))).findIdx? fun l => l.isEmpty).isNone = fitG p L
  | [], p => rfl
  | e :: r, p => by
    have ih := fitG_all r e
    rw [List.zipWith_cons_cons, List.zipWith_cons_cons, List.findIdx?_cons, fitG, ← ih]
    cases (ccE e (e.sub p)).isEmpty with
    | true => rfl
    | false => simp
theorem cntG : ∀ (L : List En) (p : En), (if fitG p L then prodE (List.zipWith oneE L (List.zipWith En.sub L (p :: L))) else 0) = prodR p L
  | [], p => rfl
  | e :: r, p => by
    have ih := cntG r e
    rw [List.zipWith_cons_cons, List.zipWith_cons_cons, fitG, prodR, valE, ← ih]
    cases (ccE e (e.sub p)).isEmpty with
    | true => simp
    | false =>
      simp only [Bool.not_false, Bool.true_and, Bool.false_eq_true, if_false]
      cases fitG e r with
      | false => simp
      | true =>
        rw [if_pos rfl, if_pos rfl]
        show List.foldl _ (1 * _) _ = _
        rw [foldl_mul, Int.one_mul]
theorem fitM_G (f : Bool) (L : List En) : fitM f L = fitG ⟨0, 0, f⟩ L := fitG_all L _
theorem cntM_R (f : Bool) (L : List En) : cntM f L = prodR ⟨0, 0, f⟩ L := by
  unfold cntM
  rw [fitM_G]
  exact cntG L _
/-- a chain of states -/
def Chn : S5 → List S5 → Prop
  | _, [] => True
  | n, m :: r => Rc n m ∧ Chn m r
theorem fit_chn : ∀ (ms : List S5) (n : S5), Chn n ms → fitG (enO n) (ms.map enO) = true
  | [], n, _ => rfl
  | m :: r, n, ⟨h1, h2⟩ => by
    rw [List.map_cons, fitG, fit_chn r m h2, Bool.and_true]
    have := cc_mem h1
    cases e : ccE (enO m) ((enO m).sub (enO n)) with
    | nil => rw [e] at this; cases this
    | cons _ _ => rfl
theorem choicesM_pos' {n k : Int} (h : 0 ≤ k) (h2 : k ≤ n) : 1 ≤ choicesM n k := choicesM_pos ⟨h, h2⟩
theorem val_rc {n m : S5} (h : Rc n m) : valE (enO n) (enO m) = oneE (enO m) ((enO m).sub (enO n)) ∧ 1 ≤ valE (enO n) (enO m) := by
  have hm := cc_mem h
  have e : (ccE (enO m) ((enO m).sub (enO n))).isEmpty = false := by
    cases e : ccE (enO m) ((enO m).sub (enO n)) with
    | nil => rw [e] at hm; cases hm
    | cons _ _ => rfl
  have e1 : valE (enO n) (enO m) = oneE (enO m) ((enO m).sub (enO n)) := by unfold valE; rw [e]; rfl
  refine ⟨e1, ?_⟩
  rw [e1]
  obtain ⟨h1, h2, _, _, _, _, _, h8⟩ := h
  show 1 ≤ (if 0 < (m.a - n.a) + (m.b - n.b) then choicesM ((m.a - n.a) + (m.b - n.b) - 1) ((m.a - n.a) - (if m.s then 1 else 0)) else 1)
  split
  · rcases h8 with h8 | h8
    · subst h8; omega
    · refine choicesM_pos' ?_ ?_ <;> split <;> simp_all <;> omega
  · omega
theorem valE_nn (p e : En) : 0 ≤ valE p e := by
  unfold valE oneE
  split
  · exact Int.le_refl 0
  · split
    · exact choicesM_nn _ _
    · omega
theorem prodR_nn : ∀ (L : List En) (p : En), 0 ≤ prodR p L
  | [], p => by show (0 : Int) ≤ 1; omega
  | e :: r, p => Int.mul_nonneg (valE_nn p e) (prodR_nn r e)
theorem prodR_pos : ∀ (ms : List S5) (n : S5), Chn n ms → 1 ≤ prodR (enO n) (ms.map enO)
  | [], n, _ => by show (1 : Int) ≤ 1; omega
  | m :: r, n, ⟨h1, h2⟩ => by
    have e1 := (val_rc h1).2
    have e2 := prodR_pos r m h2
    show 1 ≤ valE _ _ * _
    have := Int.mul_le_mul e1 e2 (by omega) (by omega)
    omega
theorem prodR_snoc (e : En) : ∀ (L : List En) (p : En), prodR p (L ++ [e]) = prodR p L * valE ((L.getLast?).getD p) e
  | [], p => by show valE p e * 1 = 1 * valE p e; omega
  | x :: r, p => by
    rw [List.cons_append, prodR, prodR, prodR_snoc e r x, Int.mul_assoc]
    congr 3
    cases r with
    | nil => rfl
    | cons y z => rw [List.getLast?_cons_cons]; cases h : (y :: z).getLast? with
      | none => simp at h
      | some u => rfl
/-- many ways of two parts -/
theorem ch_two (b j : Nat) : ∀ (a i : Nat), ch a i * ch b j ≤ ch (a + b) (i + j)
  | 0, 0 => by rw [ch_zero, Nat.zero_add, Nat.zero_add, Nat.one_mul]; exact Nat.le_refl _
  | 0, i + 1 => by rw [ch_out (Nat.succ_pos i), Nat.zero_mul]; exact Nat.zero_le _
  | a + 1, 0 => by
    have h := ch_two b j a 0
    rw [ch_zero, Nat.one_mul, Nat.zero_add] at h ⊢
    cases j with
    | zero => rw [ch_zero, ch_zero]; exact Nat.le_refl _
    | succ j =>
      rw [show a + 1 + b = (a + b) + 1 by omega]
      show _ ≤ ch (a + b) j + ch (a + b) (j + 1)
      omega
  | a + 1, i + 1 => by
    have h1 := ch_two b j a i
    have h2 := ch_two b j a (i + 1)
    rw [show a + 1 + b = (a + b) + 1 by omega, show i + 1 + j = (i + j) + 1 by omega]
    show (ch a i + ch a (i + 1)) * ch b j ≤ ch (a + b) (i + j) + ch (a + b) (i + j + 1)
    rw [Nat.add_mul]
    rw [show i + 1 + j = i + j + 1 by omega] at h2
    omega
theorem choicesM_two {n k m l : Int} (hn : 0 ≤ n) (hm : 0 ≤ m) : choicesM n k * choicesM m l ≤ choicesM (n + m) (k + l) := by
  by_cases h1 : 0 ≤ k
  · by_cases h2 : 0 ≤ l
    · obtain ⟨a, rfl⟩ := Int.eq_ofNat_of_zero_le hn
      obtain ⟨b, rfl⟩ := Int.eq_ofNat_of_zero_le hm
      obtain ⟨i, rfl⟩ := Int.eq_ofNat_of_zero_le h1
      obtain ⟨j, rfl⟩ := Int.eq_ofNat_of_zero_le h2
      rw [choicesM_nat, choicesM_nat, show (a : Int) + b = ((a + b : Nat) : Int) by push_cast; rfl, show (i : Int) + j = ((i + j : Nat) : Int) by push_cast; rfl, choicesM_nat]
      have := ch_two b j a i
      rw [show ((ch a i : Nat) : Int) * ((ch b j : Nat) : Int) = ((ch a i * ch b j : Nat) : Int) by push_cast; rfl]
      omega
    · rw [choicesM_neg (n := m) (k := l) (.inr (by omega)), Int.mul_zero]; exact choicesM_nn _ _
  · rw [choicesM_neg (n := n) (k := k) (.inr (by omega)), Int.zero_mul]; exact choicesM_nn _ _
theorem choicesM_up {n k : Int} (h : 1 ≤ n) (e : k = 0 ∨ k = 1) (x : Int) : choicesM (n - 1) (x - k) ≤ choicesM n x := by
  have p := pasc (k := x) h
  have := choicesM_nn (n - 1) x
  have := choicesM_nn (n - 1) (x - 1)
  rcases e with rfl | rfl
  · rw [Int.sub_zero]; omega
  · omega
theorem one_eq (n m : S5) : oneE (enO m) ((enO m).sub (enO n)) = if 0 < (m.a - n.a) + (m.b - n.b) then choicesM ((m.a - n.a) + (m.b - n.b) - 1) ((m.a - n.a) - (if m.s = true then 1 else 0)) else 1 := rfl
theorem val_two {n m k : S5} (h1 : Rc n m) (h2 : Rc m k) (h3 : Rc n k) : valE (enO n) (enO m) * valE (enO m) (enO k) ≤ valE (enO n) (enO k) := by
  rw [(val_rc h1).1, (val_rc h2).1, (val_rc h3).1, one_eq, one_eq, one_eq]
  have g1 := h1.1
  have g2 := h1.2.1
  have g3 := h2.1
  have g4 := h2.2.1
  have e2 : (k.a - m.a) + (k.b - m.b) = 0 → k = m := fun z => by
    rcases h2.2.2.2.2.2.2.2 with h | h
    · exact h
    · exfalso; split at h <;> omega
  by_cases z1 : 0 < (m.a - n.a) + (m.b - n.b)
  · by_cases z2 : 0 < (k.a - m.a) + (k.b - m.b)
    · rw [if_pos z1, if_pos z2, if_pos (show 0 < (k.a - n.a) + (k.b - n.b) by omega)]
      have c1 := choicesM_up (n := (m.a - n.a) + (m.b - n.b)) (k := if m.s = true then 1 else 0) (by omega) (by split <;> simp) (m.a - n.a)
      have c2 := choicesM_two (n := (m.a - n.a) + (m.b - n.b)) (k := m.a - n.a) (m := (k.a - m.a) + (k.b - m.b) - 1) (l := k.a - m.a - (if k.s = true then 1 else 0)) (by omega) (by omega)
      have c3 := Int.mul_le_mul_of_nonneg_right c1 (choicesM_nn ((k.a - m.a) + (k.b - m.b) - 1) (k.a - m.a - (if k.s = true then 1 else 0)))
      rw [show (m.a - n.a) + (m.b - n.b) + ((k.a - m.a) + (k.b - m.b) - 1) = k.a - n.a + (k.b - n.b) - 1 by omega, show m.a - n.a + (k.a - m.a - (if k.s = true then 1 else 0)) = k.a - n.a - (if k.s = true then 1 else 0) by omega] at c2
      exact Int.le_trans c3 c2
    · have := e2 (by omega)
      subst this
      rw [if_neg z2, Int.mul_one]
      exact Int.le_refl _
  · have a1 : m.a = n.a := by omega
    have a2 : m.b = n.b := by omega
    rw [if_neg z1, Int.one_mul, a1, a2]
    exact Int.le_refl _
theorem chn_of : ∀ {ms : List S5} {n : S5}, (n :: ms).Pairwise Rc → Chn n ms
  | [], n, _ => trivial
  | m :: r, n, h => ⟨(List.pairwise_cons.mp h).1 m List.mem_cons_self, chn_of (List.pairwise_cons.mp h).2⟩
theorem prod_rem : ∀ (i : Nat) (ms : List S5) (n : S5), (n :: ms).Pairwise Rc → i + 1 < ms.length → prodR (enO n) (ms.map enO) ≤ prodR (enO n) ((ms.take i ++ ms.drop (i + 1)).map enO)
  | i, [], n, _, h => by cases h
  | 0, [m], n, _, h => by simp at h
  | 0, m :: k :: r, n, hp, _ => by
    obtain ⟨h1, h2⟩ := List.pairwise_cons.mp hp
    have v := val_two (h1 m List.mem_cons_self) ((List.pairwise_cons.mp h2).1 k List.mem_cons_self) (h1 k (List.mem_cons_of_mem _ List.mem_cons_self))
    show valE _ _ * (valE _ _ * prodR (enO k) (r.map enO)) ≤ valE (enO n) (enO k) * prodR (enO k) (r.map enO)
    rw [← Int.mul_assoc]
    exact Int.mul_le_mul_of_nonneg_right v (prodR_nn _ _)
  | i + 1, m :: r, n, hp, h => by
    have ih := prod_rem i r m (List.pairwise_cons.mp hp).2 (by simpa using h)
    show valE _ _ * prodR (enO m) (r.map enO) ≤ valE _ _ * prodR (enO m) ((r.take i ++ r.drop (i + 1)).map enO)
    exact Int.mul_le_mul_of_nonneg_left ih (valE_nn _ _)
theorem val_any {q e : En} (ha : q.a ≤ e.a) (hb : q.b ≤ e.b) (h : 1 ≤ (e.a - q.a) + (e.b - q.b)) : valE q e = choicesM ((e.a - q.a) + (e.b - q.b) - 1) ((e.a - q.a) - (if e.s then 1 else 0)) := by
  have ho : oneE e (e.sub q) = choicesM ((e.a - q.a) + (e.b - q.b) - 1) ((e.a - q.a) - (if e.s then 1 else 0)) := by
    unfold oneE En.sub
    rw [if_pos (show 0 < (e.a - q.a) + (e.b - q.b) by omega)]
  unfold valE
  cases hc : (ccE e (e.sub q)).isEmpty with
  | false => rw [← ho]; rfl
  | true =>
    rw [if_pos rfl]
    have hz : (e.s = true ∧ e.a - q.a = 0) ∨ (e.s = false ∧ e.b - q.b = 0) := by
      have hc : (ccF q.s (e.a - q.a) (e.b - q.b) e.s).isEmpty = true := hc
      unfold ccF at hc
      cases hq : q.s with
      | true =>
        rw [hq, if_pos rfl, ccM_pos (by omega) (by omega) (by omega), decide_eq_true_eq] at hc
        cases hs : e.s <;> rw [hs] at hc <;> simp at hc ⊢ <;> exact hc
      | false =>
        rw [hq, if_neg (by decide), ccM_pos (by omega) (by omega) (by omega), decide_eq_true_eq] at hc
        cases hs : e.s <;> rw [hs] at hc <;> simp at hc ⊢ <;> exact hc
    rcases hz with ⟨z1, z2⟩ | ⟨z1, z2⟩
    · rw [z1, z2, if_pos rfl]
      exact (choicesM_neg (.inr (by omega))).symm
    · rw [z1]
      simp only [Bool.false_eq_true, if_false, Int.sub_zero]
      exact (choicesM_lt (by omega)).symm
/-- the exchanged server -/
theorem val_won {n m : S5} (h : Rc n m) : valE (enO n) (enO m) + valE (enO n) ⟨m.a, m.b, !m.s⟩ = choicesM ((m.a - n.a) + (m.b - n.b)) (m.a - n.a) := by
  have g1 := h.1
  have g2 := h.2.1
  by_cases z : 1 ≤ (m.a - n.a) + (m.b - n.b)
  · rw [val_any (q := enO n) (e := enO m) g1 g2 z, val_any (q := enO n) (e := ⟨m.a, m.b, !m.s⟩) g1 g2 z]
    show choicesM ((m.a - n.a) + (m.b - n.b) - 1) ((m.a - n.a) - (if m.s then 1 else 0)) + choicesM ((m.a - n.a) + (m.b - n.b) - 1) ((m.a - n.a) - (if (!m.s) = true then 1 else 0)) = _
    rw [pasc (n := (m.a - n.a) + (m.b - n.b)) z]
    cases m.s with
    | true => simp only [if_true, Bool.not_true, Bool.false_eq_true, if_false, Int.sub_zero]; omega
    | false => simp only [if_true, Bool.not_false, Bool.false_eq_true, if_false, Int.sub_zero]
  · have hmn : m = n := by
      rcases h.2.2.2.2.2.2.2 with h | h
      · exact h
      · exfalso; split at h <;> omega
    subst hmn
    have e1 : valE (enO m) (enO m) = 1 := by
      rw [(val_rc h).1, one_eq, if_neg (by omega)]
    have e2 : valE (enO m) ⟨m.a, m.b, !m.s⟩ = 0 := by
      unfold valE
      rw [if_pos]
      show (ccF m.s (m.a - m.a) (m.b - m.b) (!m.s)).isEmpty = true
      rw [Int.sub_self, Int.sub_self]
      cases m.s <;> decide +kernel
    rw [e1, e2, Int.sub_self, Int.sub_self]
    decide +kernel
/-! ranges -/
theorem ap_ok {l : List Int} {r : Int} (hs : l.Pairwise (· < ·)) (hr : ∀ x ∈ l, x % 2 = r) {x : Int} (hx : x ∈ l) : hdI l ≤ x ∧ x ≤ lsI l ∧ (x - hdI l) % 2 = 0 ∧ (lsI l - hdI l) % 2 = 0 := by
  have hne : l ≠ [] := fun z => by rw [z] at hx; cases hx
  obtain ⟨m1, m2⟩ := hd_mem hne
  have r1 := hr _ m1
  have r2 := hr _ m2
  have r3 := hr _ hx
  have b1 : hdI l ≤ x := by
    cases l with
    | nil => cases hx
    | cons y t =>
      show y ≤ x
      rcases List.mem_cons.mp hx with e | e
      · omega
      · have := (List.pairwise_cons.mp hs).1 x e; omega
  have b2 : ∀ (l : List Int), l.Pairwise (· < ·) → x ∈ l → x ≤ lsI l := by
    intro l
    induction l with
    | nil => intro _ h; cases h
    | cons y t ih =>
      intro hs hx
      obtain ⟨h1, h2⟩ := List.pairwise_cons.mp hs
      cases t with
      | nil =>
        rcases List.mem_cons.mp hx with e | e
        · rw [e]; exact Int.le_refl _
        · cases e
      | cons z u =>
        have el : lsI (y :: z :: u) = lsI (z :: u) := rfl
        rw [el]
        rcases List.mem_cons.mp hx with e | e
        · have m := (hd_mem (l := z :: u) (by simp)).2
          have := h1 _ m
          omega
        · exact ih h2 e
  exact ⟨b1, b2 l hs hx, by omega, by omega⟩
theorem ccM_ap (e : Bool) (own far : Int) : (ccM e own far).Pairwise (· < ·) ∧ ∀ x ∈ ccM e own far, x % 2 = if e then 0 else 1 := by
  unfold ccM
  cases e with
  | true =>
    rw [if_pos rfl]
    split
    · exact ⟨List.pairwise_singleton _ _, fun x h => by rw [List.mem_singleton.mp h]; rfl⟩
    · refine ⟨List.Pairwise.map _ (fun a b h => by omega) (irg_lt 1 _), fun x h => ?_⟩
      obtain ⟨t, _, rfl⟩ := List.mem_map.mp h
      simp
  | false =>
    rw [if_neg (by decide)]
    refine ⟨List.Pairwise.map _ (fun a b h => by omega) (irg_lt 0 _), fun x h => ?_⟩
    obtain ⟨t, _, rfl⟩ := List.mem_map.mp h
    simp
theorem ccE_ap (e st : En) : ∃ r, (ccE e st).Pairwise (· < ·) ∧ ∀ x ∈ ccE e st, x % 2 = r := by
  unfold ccE ccF
  split <;> exact ⟨_, ccM_ap _ _ _⟩
def z5 (f : Bool) : S5 := ⟨0, 0, f, 0, 0⟩
theorem rng_ok {f : Bool} {ms : List S5} (hp : (z5 f :: ms).Pairwise Rc) : ∀ (i : Nat) (n : S5), (z5 f :: ms)[i]? = some n → lowN (ccL f (ms.map enO)) i ≤ n.x + n.y ∧ n.x + n.y ≤ highN (ccL f (ms.map enO)) i ∧ (n.x + n.y - lowN (ccL f (ms.map enO)) i) % 2 = 0 ∧ (highN (ccL f (ms.map enO)) i - lowN (ccL f (ms.map enO)) i) % 2 = 0
  | 0, n, h => by
    cases h
    exact ⟨Int.le_refl 0, Int.le_refl 0, rfl, rfl⟩
  | i + 1, m, h => by
    obtain ⟨n, hn⟩ : ∃ n, (z5 f :: ms)[i]? = some n := ⟨_, List.getElem?_eq_getElem (by have := (List.getElem?_eq_some_iff.mp h).1; omega)⟩
    have ih := rng_ok hp i n hn
    have hr : Rc n m := by
      obtain ⟨h1, e1⟩ := List.getElem?_eq_some_iff.mp hn
      obtain ⟨h2, e2⟩ := List.getElem?_eq_some_iff.mp h
      have := List.pairwise_iff_getElem.mp hp i (i + 1) h1 h2 (by omega)
      rw [e1, e2] at this
      exact this
    have hc : (ccL f (ms.map enO))[i]? = some (ccE (enO m) ((enO m).sub (enO n))) := by
      have h1 : (ms.map enO)[i]? = some (enO m) := by rw [List.getElem?_map, show ms[i]? = some m from h]; rfl
      have h2 : (befM f (ms.map enO))[i]? = some (enO n) := by
        rw [show befM f (ms.map enO) = (z5 f :: ms).map enO from rfl, List.getElem?_map, hn]; rfl
      exact zipWith_get h1 (stepsF_get h1 h2)
    obtain ⟨e1, e2⟩ := lowN_succ hc
    obtain ⟨r, a1, a2⟩ := ccE_ap (enO m) ((enO m).sub (enO n))
    have k := ap_ok a1 a2 (cc_mem hr)
    rw [e1, e2]
    omega
/-- what a true sheet's states keep -/
structure MsOk (f : Bool) (ms : List S5) : Prop where
  hp : (z5 f :: ms).Pairwise Rc
  hb : ∀ m ∈ ms, 0 ≤ m.a ∧ m.a ≤ 60 ∧ 0 ≤ m.b ∧ m.b ≤ 60
  ne : ms ≠ []
  len : ms.length ≤ 12
  rot : ∀ m ∈ ms, m.x = rotA f (m.x + m.y) ∧ m.y = rotB f (m.x + m.y)
def LeE (p e : En) : Prop := p.a ≤ e.a ∧ p.b ≤ e.b
instance : DecidableRel LeE := fun p e => by unfold LeE; exact inferInstance
theorem okSh_le {f : Bool} {L : List En} (hp : (⟨0, 0, f⟩ :: L).Pairwise LeE) (hb : ∀ e ∈ L, e.a ≤ 60 ∧ e.b ≤ 60) (hl : L.length ≤ 400) : OkSh f L := by
  refine ⟨hl, fun e he => ?_, fun st hst => ?_⟩
  · have h1 := hb e he
    have h2 : LeE ⟨0, 0, f⟩ e := (List.pairwise_cons.mp hp).1 e he
    unfold LeE at h2
    simp only at h2
    omega
  · have key : ∀ (L : List En) (p : En), (p :: L).Pairwise LeE → ∀ st ∈ List.zipWith En.sub L (p :: L), 0 ≤ st.a ∧ 0 ≤ st.b := by
      intro L
      induction L with
      | nil => intro p _ st h; cases h
      | cons e r ih =>
        intro p hp st h
        obtain ⟨h1, h2⟩ := List.pairwise_cons.mp hp
        rw [List.zipWith_cons_cons] at h
        rcases List.mem_cons.mp h with rfl | h
        · have := h1 e List.mem_cons_self
          unfold LeE at this
          show 0 ≤ e.a - p.a ∧ 0 ≤ e.b - p.b
          omega
        · exact ih e h2 st h
    exact key L _ hp st hst
theorem MsOk.le {f : Bool} {ms : List S5} (h : MsOk f ms) : ((⟨0, 0, f⟩ : En) :: ms.map enO).Pairwise LeE := by
  have e : (⟨0, 0, f⟩ : En) :: ms.map enO = (z5 f :: ms).map enO := rfl
  rw [e]
  exact List.Pairwise.map enO (fun a b h => ⟨h.1, h.2.1⟩) h.hp
theorem MsOk.b60 {f : Bool} {ms : List S5} (h : MsOk f ms) : ∀ e ∈ ms.map enO, e.a ≤ 60 ∧ e.b ≤ 60 := fun e he => by
  obtain ⟨m, hm, rfl⟩ := List.mem_map.mp he
  exact ⟨(h.hb m hm).2.1, (h.hb m hm).2.2.2⟩
/-- parts of a true sheet -/
theorem MsOk.sub {f : Bool} {ms : List S5} (h : MsOk f ms) {L : List En} (hs : L.Sublist (ms.map enO)) : OkSh f L :=
  okSh_le (h.le.sublist (hs.cons₂ _)) (fun e he => h.b60 e (hs.subset he)) (by have := hs.length_le; rw [List.length_map] at this; have := h.len; omega)
theorem rot_next {f : Bool} {n : S5} (b : Bool) (h : n.x = rotA f (n.x + n.y) ∧ n.y = rotB f (n.x + n.y) ∧ ((n.x + n.y) % 2 = 0 ↔ n.s = f)) : (n.next b).x = rotA f ((n.next b).x + (n.next b).y) ∧ (n.next b).y = rotB f ((n.next b).x + (n.next b).y) ∧ (((n.next b).x + (n.next b).y) % 2 = 0 ↔ (n.next b).s = f) := by
  obtain ⟨a, b0, s, x, y⟩ := n
  obtain ⟨h1, h2, h3⟩ := h
  unfold rotA at h1 ⊢
  unfold rotB at h2 ⊢
  unfold S5.next
  cases f <;> cases s <;> cases b <;> simp at h1 h2 h3 ⊢ <;> omega
theorem rot_stM (f : Bool) (w : List Bool) : (stM f w).x = rotA f ((stM f w).x + (stM f w).y) ∧ (stM f w).y = rotB f ((stM f w).x + (stM f w).y) := by
  have h : (stM f w).x = rotA f ((stM f w).x + (stM f w).y) ∧ (stM f w).y = rotB f ((stM f w).x + (stM f w).y) ∧ (((stM f w).x + (stM f w).y) % 2 = 0 ↔ (stM f w).s = f) :=
    foldl_ind (P := fun n => n.x = rotA f (n.x + n.y) ∧ n.y = rotB f (n.x + n.y) ∧ ((n.x + n.y) % 2 = 0 ↔ n.s = f)) w _ (by cases f <;> simp [rotA, rotB]) fun m b h => rot_next b h
  exact ⟨h.1, h.2.1⟩
theorem stM_ab (f : Bool) : ∀ w : List Bool, ∀ n : S5, (w.foldl S5.next n).a = n.a + (w.count true : Nat) ∧ (w.foldl S5.next n).b = n.b + (w.count false : Nat)
  | [], n => by simp
  | b :: w, n => by
    have ih := stM_ab f w (n.next b)
    rw [List.foldl_cons, ih.1, ih.2]
    cases b <;> (unfold S5.next; simp; omega)
/-- the drawn sheets -/
theorem ms_ok {f : Bool} {w : List Bool} {ks : List Int} (hw : w.count true ≤ 60 ∧ w.count false ≤ 60) (h1 : ks.Pairwise (· < ·)) (h2 : ∀ k ∈ ks, 0 ≤ k ∧ k ≤ w.length) (h3 : ks ≠ []) (h4 : ks.length ≤ 12) : MsOk f (ks.map fun k => stM f (w.take k.toNat)) where
  hp := by
    refine List.pairwise_cons.mpr ⟨fun m hm => ?_, ?_⟩
    · obtain ⟨k, _, rfl⟩ := List.mem_map.mp hm
      have := stM_split (f := f) (w := w) (Nat.zero_le k.toNat)
      rw [List.take_zero] at this
      exact this
    · refine List.Pairwise.map _ (R := fun a b : Int => a.toNat ≤ b.toNat) (fun a b h => stM_split h) (h1.imp fun {a b} h => by omega)
  hb := fun m hm => by
    obtain ⟨k, _, rfl⟩ := List.mem_map.mp hm
    have h := stM_ab f (w.take k.toNat) ⟨0, 0, f, 0, 0⟩
    have c1 := (List.take_sublist k.toNat w).count_le true
    have c2 := (List.take_sublist k.toNat w).count_le false
    unfold DL.stM
    rw [h.1, h.2]
    simp only
    omega
  ne := fun z => h3 (List.map_eq_nil_iff.mp z)
  len := by rw [List.length_map]; exact h4
  rot := fun m hm => by
    obtain ⟨k, _, rfl⟩ := List.mem_map.mp hm
    exact rot_stM f _
theorem cut1 {w : List Bool} (h : w ≠ []) : (cutL w none (some (-1))).length + 1 = w.length := by
  have hp : 0 < w.length := List.length_pos_iff.mpr h
  have e : HT.sIx w.length w.length (some (-1)) = w.length - 1 := by
    unfold HT.sIx
    simp
    omega
  have e0 : HT.sIx w.length 0 none = 0 := rfl
  unfold cutL
  rw [e, e0, List.drop_zero, List.length_take]
  omega
/-- the state at a size -/
def nowT (f : Bool) (w : List Bool) : D → D
  | .int k => (stM f (w.take k.toNat)).D
  | d => d
def hd3 : D → D
  | .tup [a, b, s, _, _] => .tup [a, b, s]
  | d => d
def tl2 : D → D
  | .tup [_, _, _, x, y] => .tup [x, y]
  | d => d
theorem now_map (f : Bool) (w : List Bool) (ks : List Int) : (ks.map D.int).map (nowT f w) = (ks.map fun k => stM f (w.take k.toNat)).map S5.D := by
  rw [List.map_map, List.map_map]; rfl
theorem hd3_map (ms : List S5) : (ms.map S5.D).map hd3 = (ms.map enO).map En.D := by
  rw [List.map_map, List.map_map]; rfl
theorem tl2_map (ms : List S5) : (ms.map S5.D).map tl2 = ms.map fun m => DL.pairD (m.x, m.y) := by
  rw [List.map_map]; rfl
theorem le_of_subset : ∀ {n : Nat} {l m : List Int}, l.Pairwise (· < ·) → (∀ k ∈ l, k ∈ m) → m.length ≤ n → l.length ≤ n
  | n, [], m, _, _, _ => Nat.zero_le _
  | 0, x :: l, m, _, h, hn => by
    have hm : m = [] := List.length_eq_zero_iff.mp (by omega)
    have := h x List.mem_cons_self
    rw [hm] at this
    cases this
  | n + 1, x :: l, m, hp, h, hn => by
    obtain ⟨h1, h2⟩ := List.pairwise_cons.mp hp
    have hx := h x List.mem_cons_self
    have := le_of_subset (n := n) (m := m.erase x) h2 (fun k hk => (List.mem_erase_of_ne (by have := h1 k hk; omega)).mpr (h k (List.mem_cons_of_mem _ hk))) (by rw [List.length_erase_of_mem hx]; omega)
    rw [List.length_cons]
    omega
theorem lc_bind {ti : TDI} {g : TDG} {tt : TDT} {te : TD} {vs : List Nat} {ρ : DSt} {S : Sto} {Q : DQ} {P : List D → Prop} (h : ∀ R : List D → Sto → Prop, (∀ L, P L → R L S) → ti ρ S R)
    (k : ∀ L, P L → dLc (fun _ S R => R L S) g tt te vs ρ S Q) : dLc ti g tt te vs ρ S Q := ⟨h _ fun L hL => (k L hL).go⟩
theorem MsOk.fit {f : Bool} {ms : List S5} (h : MsOk f ms) : fitM f (ms.map enO) = true := by rw [fitM_G]; exact fit_chn ms (z5 f) (chn_of h.hp)
theorem MsOk.fw {f : Bool} {ms : List S5} (h : MsOk f ms) : fwM f (ms.map enO) = none := by
  have := h.fit
  unfold fitM at this
  exact Option.isNone_iff_eq_none.mp this
theorem MsOk.ch {f : Bool} {ms : List S5} (h : MsOk f ms) : chR f (ms.map enO) = rngP (ccL f (ms.map enO)) ms.length := by
  unfold chR
  rw [h.fit, if_pos rfl, List.length_map]
theorem rngP_get {M : List (List Int)} {n i : Nat} (h : i < n) : (rngP M n)[i]? = some (lowN M (i + 1), highN M (i + 1)) := by
  unfold rngP; rw [List.getElem?_map, List.getElem?_range h]; rfl
theorem ok_prs2 {ps : List (Int × Int)} : D.ok 64 (.lst (ps.map DL.pairD)) = true := ok_lst.mpr fun d h => by
  obtain ⟨x, _, rfl⟩ := List.mem_map.mp h
  rfl
theorem told_len {f : Bool} {p q : Nat} {L : List En} {i : Nat} {ps : List (Int × Int)} (hp2 : ps.Pairwise ltL) (hp3 : ∀ x, x ∈ ps ↔ fitM f L = true ∧ ∃ n ∈ evs f L i, x = rotP f p q n) (hf : fitM f L = true)
    (h : lowN (ccL f L) (i + 1) ≤ highN (ccL f L) (i + 1)) (h2 : (highN (ccL f L) (i + 1) - lowN (ccL f L) (i + 1)) % 2 = 0) : (ps.length : Int) ≤ (highN (ccL f L) (i + 1) - lowN (ccL f L) (i + 1)) / 2 + 1 := by
  have hn : ps.Nodup := hp2.imp fun {x y} h z => by
    subst z
    unfold ltL at h
    omega
  have hpm : ps.Perm (ksN f p q (evs f L i)) := (List.perm_ext_iff_of_nodup hn (ksN_nodup f p q _)).mpr fun x => by
    rw [hp3, ksN_mem]
    exact ⟨fun z => z.2, fun z => ⟨hf, z⟩⟩
  have h3 := ksN_len f p q (evs f L i)
  rw [hpm.length_eq]
  have h4 : (evs f L i).length = ((highN (ccL f L) (i + 1) + 1 - lowN (ccL f L) (i + 1) + 1) / 2).toNat := irgC_len _ _ _
  omega
theorem told_mem {f : Bool} {p q : Nat} {L : List En} {i : Nat} {ps : List (Int × Int)} {m : S5} (hp3 : ∀ x, x ∈ ps ↔ fitM f L = true ∧ ∃ n ∈ evs f L i, x = rotP f p q n) (hf : fitM f L = true)
    (r1 : lowN (ccL f L) (i + 1) ≤ m.x + m.y) (r2 : m.x + m.y ≤ highN (ccL f L) (i + 1)) (r3 : (m.x + m.y - lowN (ccL f L) (i + 1)) % 2 = 0) (x1 : m.x = rotA f (m.x + m.y)) (x2 : m.y = rotB f (m.x + m.y)) :
    ((ps.map DL.pairD).any fun z => D.eqv z (.tup [.int (m.x % p), .int (m.y % q)])) = true := by
  refine List.any_eq_true.mpr ⟨DL.pairD (m.x % p, m.y % q), List.mem_map.mpr ⟨(m.x % p, m.y % q), (hp3 _).mpr ⟨hf, m.x + m.y, ?_, ?_⟩, rfl⟩, eqv_refl (n := 64) rfl⟩
  · unfold evs irgC
    refine List.mem_map.mpr ⟨((m.x + m.y - lowN (ccL f L) (i + 1)) / 2).toNat, List.mem_range.mpr ?_, ?_⟩ <;> omega
  · unfold rotP
    rw [← x1, ← x2]
theorem log2_le {n k : Nat} (h : n ≤ 2 ^ k) : n.log2 ≤ k := by
  by_cases h0 : n = 0
  · rw [h0]; exact Nat.zero_le _
  · have := (Nat.log2_lt h0 (k := k + 1)).mpr (Nat.lt_of_le_of_lt h (Nat.pow_lt_pow_right (by decide) (Nat.lt_succ_self k)))
    omega
def B60 (e : En) : Prop := 0 ≤ e.a ∧ e.a ≤ 60 ∧ 0 ≤ e.b ∧ e.b ≤ 60
theorem valE_le {p e : En} (hp : B60 p) (he : B60 e) : (valE p e).natAbs ≤ 2 ^ 400 := by
  unfold B60 at hp he
  unfold valE
  split
  · exact Nat.zero_le _
  · unfold oneE En.sub
    split
    · exact Nat.le_of_lt (choicesM_le (by simp only; omega))
    · exact Nat.one_le_two_pow
theorem prodR_le : ∀ (L : List En) (p : En), B60 p → (∀ e ∈ L, B60 e) → (prodR p L).natAbs ≤ 2 ^ (400 * L.length)
  | [], p, _, _ => Nat.le_refl _
  | e :: r, p, hp, h => by
    have h1 := valE_le hp (h e List.mem_cons_self)
    have h2 := prodR_le r e (h e List.mem_cons_self) fun z hz => h z (List.mem_cons_of_mem _ hz)
    rw [prodR, Int.natAbs_mul, List.length_cons, Nat.mul_add, Nat.mul_one, Nat.pow_add, Nat.mul_comm (2 ^ (400 * r.length))]
    exact Nat.mul_le_mul h1 h2
abbrev z0 (f : Bool) : En := ⟨0, 0, f⟩
theorem b60z (f : Bool) : B60 (z0 f) := by unfold B60; exact ⟨Int.le_refl 0, by show (0 : Int) ≤ 60; decide, Int.le_refl 0, by show (0 : Int) ≤ 60; decide⟩
theorem MsOk.b60' {f : Bool} {ms : List S5} (h : MsOk f ms) : ∀ e ∈ ms.map enO, B60 e := fun e he => by
  obtain ⟨m, hm, rfl⟩ := List.mem_map.mp he
  exact h.hb m hm
theorem pair_sub {α : Type} {l : List α} {i : Nat} {a b : α} (h1 : l[i]? = some a) (h2 : l[i + 1]? = some b) : [a, b].Sublist l := by
  have e : [a, b] = (l.drop i).take 2 := by
    obtain ⟨g1, rfl⟩ := List.getElem?_eq_some_iff.mp h1
    obtain ⟨g2, rfl⟩ := List.getElem?_eq_some_iff.mp h2
    rw [List.drop_eq_getElem_cons g1, List.drop_eq_getElem_cons g2]
    rfl
  rw [e]
  exact (List.take_sublist _ _).trans (List.drop_sublist _ _)
theorem last_take {α : Type} {l : List α} {i : Nat} {a : α} (h : l[i]? = some a) : (l.take (i + 1)).getLast? = some a := by
  rw [take_snoc h]; simp
theorem MsOk.rc0 {f : Bool} {ms : List S5} (h : MsOk f ms) {m : S5} (hm : m ∈ ms) : Rc (z5 f) m := (List.pairwise_cons.mp h.hp).1 m hm
theorem MsOk.rc1 {f : Bool} {ms : List S5} (h : MsOk f ms) {i : Nat} {n m : S5} (h1 : (z5 f :: ms)[i]? = some n) (h2 : ms[i]? = some m) : Rc n m := by
  obtain ⟨g1, e1⟩ := List.getElem?_eq_some_iff.mp h1
  obtain ⟨g2, e2⟩ := List.getElem?_eq_some_iff.mp (show (z5 f :: ms)[i + 1]? = some m from h2)
  have := List.pairwise_iff_getElem.mp h.hp i (i + 1) g1 g2 (by omega)
  rw [e1, e2] at this
  exact this
theorem MsOk.two {f : Bool} {ms : List S5} (h : MsOk f ms) {i : Nat} {m1 m2 : S5} (h1 : ms[i]? = some m1) (h2 : ms[i + 1]? = some m2) :
    (cntM f [enO m1] = valE (z0 f) (enO m1) ∧ cntM f [enO m1, enO m2] = valE (z0 f) (enO m1) * valE (enO m1) (enO m2) ∧ 1 ≤ valE (z0 f) (enO m1)) ∧
    (OkSh f [enO m1] ∧ OkSh f [enO m1, enO m2]) ∧ prodR (z0 f) ((ms.map enO).take (i + 2)) = prodR (z0 f) ((ms.map enO).take (i + 1)) * valE (enO m1) (enO m2) ∧
    CDivW 0 (valE (z0 f) (enO m1)) ∧ CMulW (prodR (z0 f) ((ms.map enO).take (i + 1))) (valE (enO m1) (enO m2)) := by
  have g1 : (ms.map enO)[i]? = some (enO m1) := by rw [List.getElem?_map, h1]; rfl
  have g2 : (ms.map enO)[i + 1]? = some (enO m2) := by rw [List.getElem?_map, h2]; rfl
  have v1 : 1 ≤ valE (z0 f) (enO m1) := (val_rc (h.rc0 (List.mem_of_getElem? h1))).2
  have b1 := h.b60' _ (List.mem_of_getElem? g1)
  have b2 := h.b60' _ (List.mem_of_getElem? g2)
  refine ⟨⟨?_, ?_, v1⟩, ⟨h.sub (List.singleton_sublist.mpr (List.mem_of_getElem? g1)), h.sub (pair_sub g1 g2)⟩, ?_, ⟨by omega, ?_⟩, ?_⟩
  · rw [cntM_R]; show valE _ _ * 1 = _; rw [Int.mul_one]
  · rw [cntM_R]; show valE _ _ * (valE _ _ * 1) = _; rw [Int.mul_one]
  · rw [take_snoc g2, prodR_snoc, last_take g1]; rfl
  · have := log2_le (valE_le (b60z f) b1); omega
  · have e1 := log2_le (valE_le b1 b2)
    have e2 := log2_le (prodR_le ((ms.map enO).take (i + 1)) (z0 f) (b60z f) fun e he => h.b60' e (List.mem_of_mem_take he))
    have e3 : ((ms.map enO).take (i + 1)).length ≤ 12 := by rw [List.length_take, List.length_map]; have := h.len; omega
    unfold CMulW
    omega
theorem enD_get {ms : List S5} {i : Nat} {d : D} (h : ((ms.map enO).map En.D)[i]? = some d) : ∃ m, ms[i]? = some m ∧ d = (enO m).D := by
  rw [List.map_map, List.getElem?_map] at h
  cases e : ms[i]? with
  | none => rw [e] at h; cases h
  | some m => rw [e] at h; cases h; exact ⟨m, rfl, rfl⟩
theorem MsOk.num {f : Bool} {ms : List S5} (h : MsOk f ms) : 1 ≤ cntM f (ms.map enO) ∧ 1 ≤ ms.length := by
  refine ⟨?_, List.length_pos_iff.mpr h.ne⟩
  rw [cntM_R]
  exact prodR_pos ms (z5 f) (chn_of h.hp)
theorem zip_all {f : Bool} {L : List En} (h : 1 ≤ L.length) : prodR (z0 f) (L.take (min (L.map En.D).length ((L.map En.D).drop 1).length + 1)) = cntM f L := by
  rw [List.length_drop, List.length_map, List.take_of_length_le (by omega), cntM_R]
/-- without one entry -/
theorem MsOk.rem {f : Bool} {ms : List S5} (h : MsOk f ms) {j : Nat} (hj : j + 1 < ms.length) : OkSh f ((ms.map enO).take j ++ (ms.map enO).drop (j + 1)) ∧ cntM f (ms.map enO) ≤ cntM f ((ms.map enO).take j ++ (ms.map enO).drop (j + 1)) := by
  refine ⟨h.sub ?_, ?_⟩
  · have : ((ms.map enO).take j ++ (ms.map enO).drop (j + 1)).Sublist ((ms.map enO).take j ++ (ms.map enO).drop j) :=
      List.Sublist.append (List.Sublist.refl _) (by rw [← List.drop_drop]; exact List.drop_sublist _ _)
    rw [List.take_append_drop] at this
    exact this
  · rw [cntM_R, cntM_R]
    have := prod_rem j ms (z5 f) h.hp hj
    rw [List.map_append, List.map_take, List.map_drop] at this
    exact this
theorem MsOk.won {f : Bool} {ms : List S5} (h : MsOk f ms) {j : Nat} {n m : S5} (hn : (z5 f :: ms)[j]? = some n) (hm : ms[j]? = some m) :
    (OkSh f ((ms.map enO).take (j + 1)) ∧ OkSh f ((ms.map enO).take j) ∧ OkSh f ((ms.map enO).take j ++ [⟨m.a, m.b, !m.s⟩])) ∧
    cntM f ((ms.map enO).take (j + 1)) + cntM f ((ms.map enO).take j ++ [⟨m.a, m.b, !m.s⟩]) = choicesM (m.a + m.b - n.a - n.b) (m.a - n.a) * cntM f ((ms.map enO).take j) ∧
    (0 ≤ n.a ∧ n.a ≤ m.a ∧ m.a ≤ 60 ∧ 0 ≤ n.b ∧ n.b ≤ m.b ∧ m.b ≤ 60) ∧ CMulW (choicesM (m.a + m.b - n.a - n.b) (m.a - n.a)) (cntM f ((ms.map enO).take j)) := by
  have hr := h.rc1 hn hm
  have hmm := List.mem_of_getElem? hm
  have g1 : (ms.map enO)[j]? = some (enO m) := by rw [List.getElem?_map, hm]; rfl
  have hb := h.hb m hmm
  have hlast : ((ms.map enO).take j).getLast?.getD (z0 f) = enO n := by
    cases j with
    | zero => cases hn; rfl
    | succ j =>
      rw [last_take (show (ms.map enO)[j]? = some (enO n) by rw [List.getElem?_map, show ms[j]? = some n from hn]; rfl)]
      rfl
  have hn0 : 0 ≤ n.a ∧ 0 ≤ n.b := by
    cases j with
    | zero => cases hn; exact ⟨Int.le_refl 0, Int.le_refl 0⟩
    | succ j =>
      have := h.rc0 (List.mem_of_getElem? (show ms[j]? = some n from hn))
      exact ⟨this.1, this.2.1⟩
  have h1 := hr.1
  have h2 := hr.2.1
  have e1 : (ms.map enO).take (j + 1) = (ms.map enO).take j ++ [enO m] := take_snoc g1
  have hl : ((ms.map enO).take j).length ≤ 12 := by rw [List.length_take, List.length_map]; have := h.len; omega
  have o1 : OkSh f ((ms.map enO).take (j + 1)) := h.sub (List.take_sublist _ _)
  refine ⟨⟨o1, h.sub (List.take_sublist _ _), okSh_le ?_ (fun e he => ?_) (by rw [List.length_append]; simp only [List.length_singleton]; omega)⟩, ?_, ⟨hn0.1, h1, hb.2.1, hn0.2, h2, hb.2.2.2⟩, ?_⟩
  · have hp := h.le.sublist (List.Sublist.cons₂ (⟨0, 0, f⟩ : En) (List.take_sublist (j + 1) (ms.map enO)))
    rw [e1, ← List.cons_append] at hp
    obtain ⟨p1, p2, p3⟩ := List.pairwise_append.mp hp
    rw [← List.cons_append]
    refine List.pairwise_append.mpr ⟨p1, List.pairwise_singleton _ _, fun x hx y hy => ?_⟩
    rw [List.mem_singleton.mp hy]
    exact p3 x hx (enO m) (List.mem_singleton.mpr rfl)
  · rcases List.mem_append.mp he with he | he
    · exact h.b60 e (List.mem_of_mem_take he)
    · rw [List.mem_singleton.mp he]; exact ⟨hb.2.1, hb.2.2.2⟩
  · rw [e1, cntM_R, cntM_R, cntM_R, prodR_snoc, prodR_snoc, hlast, ← Int.mul_add, val_won hr, Int.mul_comm]
    congr 2
    omega
  · have b := prodR_le ((ms.map enO).take j) (z0 f) (b60z f) fun e he => h.b60' e (List.mem_of_mem_take he)
    have e2 := log2_le b
    have e3 := log2_le (Nat.le_of_lt (choicesM_le (n := m.a + m.b - n.a - n.b) (k := m.a - n.a) (by omega)))
    rw [show cntM f ((ms.map enO).take j) = prodR (z0 f) ((ms.map enO).take j) from cntM_R _ _]
    unfold CMulW
    omega

/-! all rallies that pass through given states -/
theorem allW_add (n : Nat) : ∀ m : Nat, allW (n + m) = (allW n).flatMap fun u => (allW m).map fun v => u ++ v
  | 0 => by
    show allW n = _
    have : ∀ L : List (List Bool), (L.flatMap fun u => (allW 0).map fun v => u ++ v) = L := by
      intro L
      induction L with
      | nil => rfl
      | cons u L ih => rw [List.flatMap_cons, ih]; show [u ++ []] ++ L = _; rw [List.append_nil]; rfl
    exact (this _).symm
  | m + 1 => by
    show (allW (n + m)).flatMap (fun w => [w ++ [true], w ++ [false]]) = _
    rw [allW_add n m]
    have : ∀ L : List (List Bool), (L.flatMap fun u => (allW m).map fun v => u ++ v).flatMap (fun w => [w ++ [true], w ++ [false]]) = L.flatMap fun u => (allW (m + 1)).map fun v => u ++ v := by
      intro L
      induction L with
      | nil => rfl
      | cons u L ih =>
        rw [List.flatMap_cons, List.flatMap_append, ih, List.flatMap_cons]
        congr 1
        show _ = ((allW m).flatMap fun w => [w ++ [true], w ++ [false]]).map fun v => u ++ v
        generalize allW m = M
        induction M with
        | nil => rfl
        | cons v M ih2 =>
          rw [List.map_cons, List.flatMap_cons, ih2, List.flatMap_cons, List.map_append]
          simp [List.append_assoc]
    exact this _
/-- the words that lead from a side's serve to this many points, and who serves then -/
def endQ (s : Bool) (a : Int) (l : Bool) (v : List Bool) : Bool := decide ((v.count true : Int) = a) && decide (v.getLastD s = l)
def cQ (s : Bool) (a : Int) (l : Bool) (m : Nat) : Nat := (allW m).countP (endQ s a l)
theorem cnt_true : ∀ (m : Nat) (a : Int), ((allW m).countP fun v => decide ((v.count true : Int) = a)) = (choicesM m a).toNat
  | 0, a => by
    show ([[]] : List (List Bool)).countP _ = _
    by_cases h : a = 0
    · subst h; rfl
    · have : choicesM ((0 : Nat) : Int) a = 0 := by
        rcases Int.lt_or_gt_of_ne h with h1 | h1
        · exact choicesM_neg (.inr h1)
        · exact choicesM_lt (by show ((0 : Nat) : Int) < a; omega)
      rw [this, List.countP_cons, List.countP_nil, decide_eq_false (show ¬ (([] : List Bool).count true : Int) = a from fun z => h z.symm)]
      rfl
  | m + 1, a => by
    have h1 := cnt_true m a
    have h2 := cnt_true m (a - 1)
    show ((allW m).flatMap fun w => [w ++ [true], w ++ [false]]).countP _ = _
    have key : ∀ L : List (List Bool), (L.flatMap fun w => [w ++ [true], w ++ [false]]).countP (fun v => decide ((v.count true : Int) = a)) = L.countP (fun v => decide ((v.count true : Int) = a - 1)) + L.countP (fun v => decide ((v.count true : Int) = a)) := by
      intro L
      induction L with
      | nil => rfl
      | cons w L ih =>
        rw [List.flatMap_cons, List.countP_append, ih, List.countP_cons, List.countP_cons, List.countP_cons, List.countP_cons, List.countP_nil]
        have e1 : decide (((w ++ [true]).count true : Int) = a) = decide ((w.count true : Int) = a - 1) := by
          rw [List.count_append]; simp; omega
        have e2 : decide (((w ++ [false]).count true : Int) = a) = decide ((w.count true : Int) = a) := by
          rw [List.count_append]; simp
        rw [e1, e2]
        omega
    rw [key, h1, h2]
    have p := pasc (n := ((m + 1 : Nat) : Int)) (k := a) (by omega)
    rw [show ((m + 1 : Nat) : Int) - 1 = m by omega] at p
    rw [p]
    have := choicesM_nn m a
    have := choicesM_nn m (a - 1)
    omega
theorem cQ_succ (s : Bool) (a : Int) (l : Bool) (m : Nat) : (cQ s a l (m + 1) : Int) = choicesM m (a - (if l then 1 else 0)) := by
  unfold cQ
  show ((((allW m).flatMap fun w => [w ++ [true], w ++ [false]]).countP (endQ s a l) : Nat) : Int) = _
  have key : ∀ L : List (List Bool), (L.flatMap fun w => [w ++ [true], w ++ [false]]).countP (endQ s a l) = L.countP (fun v => decide ((v.count true : Int) = a - (if l then 1 else 0))) := by
    intro L
    induction L with
    | nil => rfl
    | cons w L ih =>
      rw [List.flatMap_cons, List.countP_append, ih, List.countP_cons, List.countP_cons, List.countP_cons, List.countP_nil]
      have e1 : endQ s a l (w ++ [true]) = (decide ((w.count true : Int) = a - 1) && decide (true = l)) := by
        unfold endQ
        rw [List.count_append]
        congr 1
        all_goals (simp <;> omega)
      have e2 : endQ s a l (w ++ [false]) = (decide ((w.count true : Int) = a) && decide (false = l)) := by
        unfold endQ
        rw [List.count_append]
        congr 1
        all_goals simp
      rw [e1, e2]
      cases l <;> simp <;> omega
  rw [key, cnt_true]
  have := choicesM_nn m (a - (if l = true then 1 else 0))
  omega
theorem cQ_zero (s : Bool) (a : Int) (l : Bool) : cQ s a l 0 = if 0 = a ∧ s = l then 1 else 0 := by
  unfold cQ
  show ([[]] : List (List Bool)).countP _ = _
  have e : endQ s a l [] = decide (0 = a ∧ s = l) := by
    unfold endQ
    show (decide (((0 : Nat) : Int) = a) && decide (s = l)) = _
    rw [Bool.decide_and]; rfl
  rw [List.countP_cons, List.countP_nil, e]
  by_cases h : 0 = a ∧ s = l
  · rw [decide_eq_true h, if_pos h]; rfl
  · rw [decide_eq_false h, if_neg h]; rfl
/-- one step's words are its factor -/
theorem cQ_val {p e : En} (ha : p.a ≤ e.a) (hb : p.b ≤ e.b) : (cQ p.s (e.a - p.a) e.s ((e.a - p.a) + (e.b - p.b)).toNat : Int) = valE p e := by
  by_cases h : 1 ≤ (e.a - p.a) + (e.b - p.b)
  · obtain ⟨m, hm⟩ : ∃ m : Nat, ((e.a - p.a) + (e.b - p.b)).toNat = m + 1 := ⟨((e.a - p.a) + (e.b - p.b)).toNat - 1, by omega⟩
    rw [hm, cQ_succ, val_any ha hb h]
    congr 1
    omega
  · have h1 : e.a - p.a = 0 := by omega
    have h2 : e.b - p.b = 0 := by omega
    rw [h1, h2, show ((0 : Int) + 0).toNat = 0 by decide, cQ_zero]
    unfold valE oneE ccE En.sub
    simp only [h1, h2]
    rw [if_neg (show ¬ (0 : Int) < 0 + 0 by decide)]
    cases hp : p.s <;> cases he : e.s <;> decide +kernel
def runE (p : En) (v : List Bool) : En := ⟨p.a + (v.count true : Nat), p.b + (v.count false : Nat), v.getLastD p.s⟩
def eqE (x e : En) : Bool := decide (x.a = e.a) && decide (x.b = e.b) && decide (x.s = e.s)
theorem eqE_iff {x e : En} : eqE x e = true ↔ x = e := by
  unfold eqE
  rw [Bool.and_eq_true, Bool.and_eq_true, decide_eq_true_eq, decide_eq_true_eq, decide_eq_true_eq]
  constructor
  · rintro ⟨⟨h1, h2⟩, h3⟩; cases x; cases e; simp only at h1 h2 h3; rw [h1, h2, h3]
  · rintro rfl; exact ⟨⟨rfl, rfl⟩, rfl⟩
def totE (e : En) : Int := e.a + e.b
/-- the rally v from p passes through all these -/
def okE (p : En) (L : List En) (v : List Bool) : Bool := L.all fun e => eqE (runE p (v.take (totE e - totE p).toNat)) e
theorem run_app (p : En) (u v : List Bool) : runE p (u ++ v) = runE (runE p u) v := by
  unfold runE
  rw [List.count_append, List.count_append]
  simp only [En.mk.injEq]
  refine ⟨by push_cast; omega, by push_cast; omega, ?_⟩
  cases v with
  | nil => simp
  | cons b v => simp [List.getLastD_eq_getLast?, List.getLast?_append]
theorem ab_len2 : ∀ v : List Bool, ((v.count true : Nat) : Int) + ((v.count false : Nat) : Int) = v.length
  | [] => rfl
  | b :: v => by
    have ih := ab_len2 v
    cases b <;> simp <;> omega
theorem run_tot (p : En) (v : List Bool) : totE (runE p v) = totE p + v.length := by
  unfold totE runE
  have := ab_len2 v
  simp only
  omega
theorem all_congr2 {f g : En → Bool} : ∀ (l : List En), (∀ z ∈ l, f z = g z) → l.all f = l.all g
  | [], _ => rfl
  | z :: l, h => by rw [List.all_cons, List.all_cons, h z List.mem_cons_self, all_congr2 l fun y hy => h y (List.mem_cons_of_mem _ hy)]
theorem okE_split {p e : En} {r : List En} {u v : List Bool} (hl : (u.length : Int) = totE e - totE p) (hr : ∀ z ∈ r, totE e ≤ totE z) : okE p (e :: r) (u ++ v) = (eqE (runE p u) e && okE e r v) := by
  unfold okE
  rw [List.all_cons, show (totE e - totE p).toNat = u.length by omega, List.take_left']
  · cases h : eqE (runE p u) e with
    | false => rfl
    | true =>
      have he := eqE_iff.mp h
      simp only [Bool.true_and]
      refine all_congr2 r fun z hz => ?_
      have := hr z hz
      have ht : ((u ++ v).take (totE z - totE p).toNat) = u ++ v.take (totE z - totE e).toNat := by
        rw [List.take_append, List.take_of_length_le (by omega)]
        congr 2
        omega
      rw [ht, run_app, he]
  · rfl
theorem countP_flat {A B : List (List Bool)} {q : List Bool → Bool} {f g : List Bool → Bool} (h : ∀ u ∈ A, ∀ v ∈ B, q (u ++ v) = (f u && g v)) : (A.flatMap fun u => B.map fun v => u ++ v).countP q = A.countP f * B.countP g := by
  induction A with
  | nil => simp
  | cons u A ih =>
    rw [List.flatMap_cons, List.countP_append, ih fun u hu => h u (List.mem_cons_of_mem _ hu), List.countP_cons, List.countP_map]
    have e : (B.countP (q ∘ fun v => u ++ v)) = if f u = true then B.countP g else 0 := by
      cases hf : f u with
      | true =>
        rw [if_pos rfl]
        refine List.countP_congr fun v hv => ?_
        show q (u ++ v) = true ↔ g v = true
        rw [h u List.mem_cons_self v hv, hf, Bool.true_and]
      | false =>
        rw [if_neg (by decide)]
        refine List.countP_eq_zero.mpr fun v hv => ?_
        show ¬ q (u ++ v) = true
        rw [h u List.mem_cons_self v hv, hf, Bool.false_and]
        decide
    rw [e]
    cases f u <;> simp [Nat.add_mul] <;> omega
/-- all rallies through a sheet -/
theorem cnt_sheet : ∀ (L : List En) (p : En) (N : Nat), (p :: L).Pairwise LeE → (N : Int) = (match L.getLast? with | some e => totE e | none => totE p) - totE p → ((allW N).countP (okE p L) : Int) = prodR p L
  | [], p, N, _, hN => by
    have : N = 0 := by simp at hN; omega
    subst this
    rfl
  | e :: r, p, N, hp, hN => by
    obtain ⟨h1, h2⟩ := List.pairwise_cons.mp hp
    have he := h1 e List.mem_cons_self
    have hr : ∀ z ∈ r, totE e ≤ totE z := fun z hz => by
      have := (List.pairwise_cons.mp h2).1 z hz
      unfold LeE at this; unfold totE; omega
    unfold LeE at he
    have hm0 : 0 ≤ totE e - totE p := by unfold totE; omega
    obtain ⟨m, hm⟩ := Int.eq_ofNat_of_zero_le hm0
    have hlast : (match (e :: r).getLast? with | some e => totE e | none => totE p) = (match r.getLast? with | some z => totE z | none => totE e) := by
      cases r with
      | nil => rfl
      | cons z r => rw [List.getLast?_cons_cons]; cases h : (z :: r).getLast? with
        | none => simp at h
        | some y => rfl
    rw [hlast] at hN
    have hge : totE e ≤ (match r.getLast? with | some z => totE z | none => totE e) := by
      cases h : r.getLast? with
      | none => exact Int.le_refl _
      | some z => exact hr z (List.mem_of_getLast? h)
    obtain ⟨k, rfl⟩ : ∃ k, N = m + k := ⟨N - m, by omega⟩
    rw [allW_add, countP_flat (f := fun u => eqE (runE p u) e) (g := okE e r) fun u hu v hv => okE_split (by rw [allW_len m u hu]; omega) hr]
    have ih := cnt_sheet r e k h2 (by omega)
    rw [prodR, ← ih, ← cQ_val he.1 he.2]
    push_cast
    congr 1
    unfold cQ
    rw [show ((e.a - p.a) + (e.b - p.b)).toNat = m by unfold totE at hm; omega]
    congr 1
    refine List.countP_congr fun u hu => ?_
    have hl := allW_len m u hu
    have hab := ab_len2 u
    unfold endQ eqE runE
    simp only [Bool.and_eq_true, decide_eq_true_eq]
    unfold totE at hm
    constructor
    · rintro ⟨⟨g1, g2⟩, g3⟩; exact ⟨by omega, g3⟩
    · rintro ⟨g1, g3⟩; exact ⟨⟨by omega, by omega⟩, g3⟩
/-! the numbers of serve changes that are reached -/
def chs : Bool → List Bool → Nat
  | _, [] => 0
  | s, b :: v => (if b = s then 0 else 1) + chs b v
theorem chs_app : ∀ (s : Bool) (u v : List Bool), chs s (u ++ v) = chs s u + chs (u.getLastD s) v
  | s, [], v => by simp [chs]
  | s, b :: u, v => by
    rw [List.cons_append, chs, chs, chs_app b u v, List.getLastD_cons]
    omega
theorem fold_chs : ∀ (v : List Bool) (n : S5), (v.foldl S5.next n).x + (v.foldl S5.next n).y = n.x + n.y + chs n.s v ∧ enO (v.foldl S5.next n) = runE (enO n) v
  | [], n => ⟨by simp [chs], by unfold runE enO; simp⟩
  | b :: v, n => by
    obtain ⟨h1, h2⟩ := fold_chs v (n.next b)
    rw [List.foldl_cons, h1, h2, show b :: v = [b] ++ v from rfl, run_app, show enO (n.next b) = runE (enO n) [b] from by unfold enO runE S5.next; cases b <;> simp]
    refine ⟨?_, rfl⟩
    show _ = n.x + n.y + ((chs n.s ([b] ++ v) : Nat) : Int)
    rw [List.singleton_append, chs]
    unfold S5.next
    cases b <;> cases n.s <;> simp <;> omega
/-- every number in the list of choices is reached, for up to ten rallies -/
theorem cc_reach {p e : En} (ha : p.a ≤ e.a) (hb : p.b ≤ e.b) (ht : totE e - totE p ≤ 10) {c : Int} (hc : c ∈ ccE e (e.sub p)) : ∃ v : List Bool, (v.length : Int) = totE e - totE p ∧ runE p v = e ∧ (chs p.s v : Int) = c := by
  have hc : c ∈ ccF p.s (e.a - p.a) (e.b - p.b) e.s := hc
  unfold totE at ht ⊢
  obtain ⟨k, hk⟩ := Int.eq_ofNat_of_zero_le (show 0 ≤ (e.a - p.a) + (e.b - p.b) by omega)
  have hcc := ends_cc (f := p.s) (l := e.s) (k := k) (a := e.a - p.a) (by omega) (by omega) (by omega)
  rw [show (k : Int) - (e.a - p.a) = e.b - p.b by omega] at hcc
  rw [← hcc] at hc
  have hw := (List.mem_filter.mp hc).2
  unfold hasW at hw
  obtain ⟨w, hwm, hw⟩ := List.any_eq_true.mp hw
  obtain ⟨g1, g2, g3⟩ := of_decide_eq_true hw
  obtain ⟨f1, f2⟩ := fold_chs w ⟨0, 0, p.s, 0, 0⟩
  have hl := allW_len k w hwm
  have hab := ab_len2 w
  have q1 : ((w.count true : Nat) : Int) = e.a - p.a := by
    have := congrArg En.a f2
    unfold runE enO at this
    simp only at this
    rw [← g1]
    show _ = (List.foldl S5.next ⟨0, 0, p.s, 0, 0⟩ w).a
    omega
  have q3 : w.getLastD p.s = e.s := by
    have := congrArg En.s f2
    unfold runE enO at this
    simp only at this
    rw [← g2, ← this]; rfl
  refine ⟨w, by omega, ?_, ?_⟩
  · unfold runE
    cases e
    simp only [En.mk.injEq] at q1 q3 ⊢
    simp only at hk
    exact ⟨by omega, by omega, q3⟩
  · have : chg (stM p.s w) = c := g3
    unfold chg at this
    rw [← this]
    show _ = (List.foldl S5.next ⟨0, 0, p.s, 0, 0⟩ w).x + (List.foldl S5.next ⟨0, 0, p.s, 0, 0⟩ w).y
    rw [f1]
    simp
def lowG : En → List En → Int
  | _, [] => 0
  | p, e :: r => hdI (ccE e (e.sub p)) + lowG e r
def highG : En → List En → Int
  | _, [] => 0
  | p, e :: r => lsI (ccE e (e.sub p)) + highG e r
theorem ccM_step {e : Bool} {own far c : Int} (hc : ccM e own far ≠ []) (h1 : hdI (ccM e own far) ≤ c) (h2 : c ≤ lsI (ccM e own far)) (h3 : (c - hdI (ccM e own far)) % 2 = 0) : c ∈ ccM e own far := by
  obtain ⟨m1, m2⟩ := hd_mem hc
  have hp := (ccM_ap e own far).2 _ m1
  unfold ccM at m1 m2 h1 h2 h3 hp ⊢
  cases e with
  | true =>
    simp only [if_true] at m1 m2 h1 h2 h3 hp ⊢
    by_cases hf : far = 0
    · rw [if_pos hf] at m1 m2 h1 h2 h3 hp ⊢
      have a1 := List.mem_singleton.mp m1
      have a2 := List.mem_singleton.mp m2
      exact List.mem_singleton.mpr (by omega)
    · rw [if_neg hf] at m1 m2 h1 h2 h3 hp ⊢
      obtain ⟨t1, g1, e1⟩ := List.mem_map.mp m1
      obtain ⟨t2, g2, e2⟩ := List.mem_map.mp m2
      have := mem_irg.mp g1
      have := mem_irg.mp g2
      exact List.mem_map.mpr ⟨c / 2, mem_irg.mpr (by omega), by omega⟩
  | false =>
    simp only [Bool.false_eq_true, if_false] at m1 m2 h1 h2 h3 hp ⊢
    obtain ⟨t1, g1, e1⟩ := List.mem_map.mp m1
    obtain ⟨t2, g2, e2⟩ := List.mem_map.mp m2
    have := mem_irg.mp g1
    have := mem_irg.mp g2
    exact List.mem_map.mpr ⟨c / 2, mem_irg.mpr (by omega), by omega⟩
theorem ccE_step {e st : En} {c : Int} (hc : ccE e st ≠ []) (h1 : hdI (ccE e st) ≤ c) (h2 : c ≤ lsI (ccE e st)) (h3 : (c - hdI (ccE e st)) % 2 = 0) : c ∈ ccE e st := by
  obtain ⟨a, b, s⟩ := st
  cases s with
  | true => exact ccM_step (e := e.s == true) (own := a) (far := b) hc h1 h2 h3
  | false => exact ccM_step (e := e.s == false) (own := b) (far := a) hc h1 h2 h3
theorem low_high : ∀ (L : List En) (p : En), fitG p L = true → lowG p L ≤ highG p L ∧ (highG p L - lowG p L) % 2 = 0
  | [], p, _ => ⟨Int.le_refl 0, rfl⟩
  | e :: r, p, h => by
    rw [fitG, Bool.and_eq_true, Bool.not_eq_true'] at h
    obtain ⟨i1, i2⟩ := low_high r e h.2
    have hne : ccE e (e.sub p) ≠ [] := fun z => by rw [z] at h; cases h.1
    obtain ⟨q, a1, a2⟩ := ccE_ap e (e.sub p)
    have k := ap_ok a1 a2 (hd_mem hne).2
    unfold lowG highG
    omega
theorem fit_take : ∀ (r : List En) (p : En) (i : Nat), fitG p r = true → fitG p (r.take i) = true
  | _, p, 0, _ => rfl
  | [], p, i + 1, _ => rfl
  | e :: r, p, i + 1, h => by
    rw [fitG, Bool.and_eq_true] at h
    rw [List.take_succ_cons, fitG, h.1, fit_take r e i h.2]; rfl
def lastT (p : En) (L : List En) : Int := match L.getLast? with | some e => totE e | none => totE p
theorem lastT_cons (p e : En) (r : List En) : lastT p (e :: r) = lastT e r := by
  unfold lastT
  cases r with
  | nil => rfl
  | cons z r => rw [List.getLast?_cons_cons]; cases h : (z :: r).getLast? with
    | none => simp at h
    | some y => rfl
/-- whole sheets: every number up to an entry is reached by a rally through all entries -/
theorem reach : ∀ (L : List En) (p : En) (i : Nat) (n : Int), (p :: L).Pairwise LeE → lastT p L - totE p ≤ 10 → fitG p L = true → i ≤ L.length →
    lowG p (L.take i) ≤ n → n ≤ highG p (L.take i) → (n - lowG p (L.take i)) % 2 = 0 →
    ∃ v : List Bool, (v.length : Int) = lastT p L - totE p ∧ okE p L v = true ∧ (chs p.s (v.take (lastT p (L.take i) - totE p).toNat) : Int) = n
  | [], p, i, n, _, _, _, hi, h1, h2, _ => by
    have : i = 0 := by simpa using hi
    subst this
    refine ⟨[], by unfold lastT; simp, rfl, ?_⟩
    simp only [List.take_nil, lowG, highG] at h1 h2 ⊢
    show ((0 : Nat) : Int) = n
    omega
  | e :: r, p, i, n, hp, ht, hf, hi, h1, h2, h3 => by
    obtain ⟨p1, p2⟩ := List.pairwise_cons.mp hp
    have he := p1 e List.mem_cons_self
    have hr : ∀ z ∈ r, totE e ≤ totE z := fun z hz => by
      have := (List.pairwise_cons.mp p2).1 z hz
      unfold LeE at this; unfold totE; omega
    unfold LeE at he
    have hle : totE p ≤ totE e := by unfold totE; omega
    have hlast : totE e ≤ lastT e r := by
      unfold lastT
      cases h : r.getLast? with
      | none => exact Int.le_refl _
      | some z => exact hr z (List.mem_of_getLast? h)
    rw [lastT_cons] at ht ⊢
    rw [fitG, Bool.and_eq_true, Bool.not_eq_true'] at hf
    have hne : ccE e (e.sub p) ≠ [] := fun z => by rw [z] at hf; cases hf.1
    obtain ⟨q, a1, a2⟩ := ccE_ap e (e.sub p)
    have k := ap_ok a1 a2 (hd_mem hne).2
    cases i with
    | zero =>
      simp only [List.take_zero, lowG, highG] at h1 h2
      obtain ⟨u, u1, u2, u3⟩ := cc_reach he.1 he.2 (by omega) (hd_mem hne).1
      obtain ⟨v, v1, v2, _⟩ := reach r e 0 0 p2 (by omega) hf.2 (Nat.zero_le _) (by simp [lowG]) (by simp [highG]) (by simp [lowG])
      refine ⟨u ++ v, by rw [List.length_append]; push_cast; omega, ?_, ?_⟩
      · rw [okE_split u1 hr, v2, Bool.and_true]; exact eqE_iff.mpr u2
      · show ((chs p.s (List.take (lastT p [] - totE p).toNat (u ++ v)) : Nat) : Int) = n
        rw [show (lastT p [] - totE p).toNat = 0 by unfold lastT; simp]
        show ((0 : Nat) : Int) = n
        omega
    | succ i =>
      simp only [List.take_succ_cons, lowG, highG] at h1 h2 h3
      have hf2 : fitG e (r.take i) = true := fit_take r e i hf.2
      obtain ⟨lh1, lh2⟩ := low_high (r.take i) e hf2
      obtain ⟨c, n2, hcn, c1, c2, c3, d1, d2, d3⟩ : ∃ c n2 : Int, c + n2 = n ∧ hdI (ccE e (e.sub p)) ≤ c ∧ c ≤ lsI (ccE e (e.sub p)) ∧ (c - hdI (ccE e (e.sub p))) % 2 = 0 ∧ lowG e (r.take i) ≤ n2 ∧ n2 ≤ highG e (r.take i) ∧ (n2 - lowG e (r.take i)) % 2 = 0 := by
        by_cases c : n - lowG e (r.take i) ≤ lsI (ccE e (e.sub p))
        · exact ⟨n - lowG e (r.take i), lowG e (r.take i), by omega, by omega, by omega, by omega, by omega, by omega, by omega⟩
        · exact ⟨lsI (ccE e (e.sub p)), n - lsI (ccE e (e.sub p)), by omega, by omega, by omega, by omega, by omega, by omega, by omega⟩
      obtain ⟨u, u1, u2, u3⟩ := cc_reach he.1 he.2 (by omega) (ccE_step hne c1 c2 c3)
      obtain ⟨v, v1, v2, v3⟩ := reach r e i n2 p2 (by omega) hf.2 (by simpa using hi) d1 d2 d3
      refine ⟨u ++ v, by rw [List.length_append]; push_cast; omega, ?_, ?_⟩
      · rw [okE_split u1 hr, v2, Bool.and_true]; exact eqE_iff.mpr u2
      · rw [List.take_succ_cons, lastT_cons]
        have hle2 : totE e ≤ lastT e (r.take i) := by
          unfold lastT
          cases h : (r.take i).getLast? with
          | none => exact Int.le_refl _
          | some z => exact hr z (List.mem_of_mem_take (List.mem_of_getLast? h))
        have hta : (u ++ v).take (lastT e (r.take i) - totE p).toNat = u ++ v.take (lastT e (r.take i) - totE e).toNat := by
          rw [List.take_append, List.take_of_length_le (by omega)]
          congr 2
          omega
        rw [hta, chs_app, show u.getLastD p.s = e.s from by rw [← u2]; rfl]
        push_cast
        omega
theorem chs_cc (p : En) (u : List Bool) : (chs p.s u : Int) ∈ ccE (runE p u) ((runE p u).sub p) := by
  have hr := rc_of ⟨p.a, p.b, p.s, 0, 0⟩ u
  have hm := cc_mem hr
  obtain ⟨f1, f2⟩ := fold_chs u ⟨p.a, p.b, p.s, 0, 0⟩
  rw [f2, f1] at hm
  have e1 : enO ⟨p.a, p.b, p.s, 0, 0⟩ = p := rfl
  rw [e1] at hm
  simpa using hm
/-- and no others are met -/
theorem within : ∀ (L : List En) (p : En) (v : List Bool) (i : Nat), (p :: L).Pairwise LeE → (v.length : Int) = lastT p L - totE p → okE p L v = true → i ≤ L.length →
    fitG p L = true ∧ lowG p (L.take i) ≤ chs p.s (v.take (lastT p (L.take i) - totE p).toNat) ∧ (chs p.s (v.take (lastT p (L.take i) - totE p).toNat) : Int) ≤ highG p (L.take i) ∧ ((chs p.s (v.take (lastT p (L.take i) - totE p).toNat) : Int) - lowG p (L.take i)) % 2 = 0
  | [], p, v, i, _, hv, _, hi => by
    have : i = 0 := by simpa using hi
    subst this
    have hv0 : v = [] := by
      unfold lastT at hv
      simp at hv
      exact hv
    subst hv0
    refine ⟨rfl, ?_, ?_, ?_⟩ <;> simp [lowG, highG, chs]
  | e :: r, p, v, i, hp, hv, hok, hi => by
    obtain ⟨p1, p2⟩ := List.pairwise_cons.mp hp
    have he := p1 e List.mem_cons_self
    have hr : ∀ z ∈ r, totE e ≤ totE z := fun z hz => by
      have := (List.pairwise_cons.mp p2).1 z hz
      unfold LeE at this; unfold totE; omega
    unfold LeE at he
    have hle : totE p ≤ totE e := by unfold totE; omega
    rw [lastT_cons] at hv
    have hlast : totE e ≤ lastT e r := by
      unfold lastT
      cases h : r.getLast? with
      | none => exact Int.le_refl _
      | some z => exact hr z (List.mem_of_getLast? h)
    obtain ⟨u, w, rfl, hu⟩ : ∃ u w : List Bool, v = u ++ w ∧ (u.length : Int) = totE e - totE p :=
      ⟨v.take (totE e - totE p).toNat, v.drop (totE e - totE p).toNat, (List.take_append_drop _ _).symm, by rw [List.length_take]; omega⟩
    rw [List.length_append] at hv
    push_cast at hv
    rw [okE_split hu hr, Bool.and_eq_true, eqE_iff] at hok
    obtain ⟨hrun, hok2⟩ := hok
    have hc := chs_cc p u
    rw [hrun] at hc
    obtain ⟨q, a1, a2⟩ := ccE_ap e (e.sub p)
    have k := ap_ok a1 a2 hc
    have hemp : (ccE e (e.sub p)).isEmpty = false := by
      cases h : ccE e (e.sub p) with
      | nil => rw [h] at hc; cases hc
      | cons _ _ => rfl
    cases i with
    | zero =>
      obtain ⟨w1, _⟩ := within r e w 0 p2 (by omega) hok2 (Nat.zero_le _)
      refine ⟨by rw [fitG, hemp, w1]; rfl, ?_⟩
      rw [List.take_zero, show (lastT p [] - totE p).toNat = 0 by unfold lastT; simp]
      simp [lowG, highG, chs]
    | succ i =>
      obtain ⟨w1, w2, w3, w4⟩ := within r e w i p2 (by omega) hok2 (by simpa using hi)
      have hle2 : totE e ≤ lastT e (r.take i) := by
        unfold lastT
        cases h : (r.take i).getLast? with
        | none => exact Int.le_refl _
        | some z => exact hr z (List.mem_of_mem_take (List.mem_of_getLast? h))
      have hta : (u ++ w).take (lastT e (r.take i) - totE p).toNat = u ++ w.take (lastT e (r.take i) - totE e).toNat := by
        rw [List.take_append, List.take_of_length_le (by omega)]
        congr 2
        omega
      refine ⟨by rw [fitG, hemp, w1]; rfl, ?_⟩
      rw [List.take_succ_cons, lastT_cons, hta, chs_app, show u.getLastD p.s = e.s from by rw [← hrun]; rfl]
      simp only [lowG, highG]
      push_cast
      omega

/-! sheets of few rallies -/
structure ShOk (f : Bool) (L : List En) : Prop where
  ne : L ≠ []
  len : L.length ≤ 9
  pw : (z0 f :: L).Pairwise LeE
  tot : ∀ e ∈ L, totE e ≤ 8
theorem tot_z (f : Bool) : totE (z0 f) = 0 := rfl
theorem ShOk.mem {f : Bool} {L : List En} (h : ShOk f L) {e : En} (he : e ∈ L) : 0 ≤ e.a ∧ 0 ≤ e.b ∧ e.a + e.b ≤ 8 := by
  have h1 := (List.pairwise_cons.mp h.pw).1 e he
  have h2 := h.tot e he
  unfold LeE at h1
  unfold totE at h2
  exact ⟨h1.1, h1.2, h2⟩
theorem ShOk.take {f : Bool} {L : List En} (h : ShOk f L) (i : Nat) : ShOk f (L.take (i + 1)) where
  ne := by
    obtain ⟨ne, _, _, _⟩ := h
    cases L with
    | nil => exact (ne rfl).elim
    | cons x l => rw [List.take_succ_cons]; intro z; cases z
  len := by have := h.len; rw [List.length_take]; omega
  pw := by
    have := h.pw.sublist (List.take_sublist (i + 2) (z0 f :: L))
    rwa [List.take_succ_cons] at this
  tot := fun e he => h.tot e (List.mem_of_mem_take he)
theorem ShOk.sh {f : Bool} {L : List En} (h : ShOk f L) : OkSh f L := okSh_le h.pw (fun e he => by have := h.mem he; omega) (by have := h.len; omega)
theorem lastT_of {p : En} {L : List En} {e : En} (h : L.getLast? = some e) : lastT p L = totE e := by unfold lastT; rw [h]
theorem ShOk.last {f : Bool} {L : List En} (h : ShOk f L) : ∃ e, L.getLast? = some e ∧ e ∈ L ∧ lastT (z0 f) L = totE e ∧ 0 ≤ totE e ∧ totE e ≤ 8 := by
  obtain ⟨e, he⟩ : ∃ e, L.getLast? = some e := by
    cases c : L.getLast? with
    | none => exact (h.ne (List.getLast?_eq_none_iff.mp c)).elim
    | some e => exact ⟨e, rfl⟩
  have hm := List.mem_of_getLast? he
  have := h.mem hm
  exact ⟨e, he, hm, lastT_of he, by unfold totE; omega, h.tot e hm⟩
theorem allW_mem : ∀ (n : Nat) (v : List Bool), v.length = n → v ∈ allW n
  | 0, v, h => by
    have : v = [] := List.length_eq_zero_iff.mp h
    subst this
    exact List.mem_cons_self
  | n + 1, v, h => by
    have hne : v ≠ [] := fun z => by rw [z] at h; cases h
    obtain ⟨u, b, rfl⟩ : ∃ u b, v = u ++ [b] := ⟨v.dropLast, v.getLast hne, (List.dropLast_concat_getLast hne).symm⟩
    have hl : u.length = n := by rw [List.length_append] at h; simpa using h
    show _ ∈ (allW n).flatMap fun w => [w ++ [true], w ++ [false]]
    refine List.mem_flatMap.mpr ⟨u, allW_mem n u hl, ?_⟩
    cases b <;> simp
/-- all rallies that fit -/
def rowsW (f : Bool) (L : List En) : List (List Bool) := (allW (lastT (z0 f) L).toNat).filter (okE (z0 f) L)
theorem rowsW_mem {f : Bool} {L : List En} (h : ShOk f L) {v : List Bool} : v ∈ rowsW f L ↔ (v.length : Int) = lastT (z0 f) L ∧ okE (z0 f) L v = true := by
  obtain ⟨e, _, _, he, h0, _⟩ := h.last
  unfold rowsW
  rw [List.mem_filter]
  constructor
  · rintro ⟨h1, h2⟩
    have := allW_len _ v h1
    exact ⟨by omega, h2⟩
  · rintro ⟨h1, h2⟩
    exact ⟨allW_mem _ _ (by omega), h2⟩
theorem rowsW_cnt {f : Bool} {L : List En} (h : ShOk f L) : ((rowsW f L).length : Int) = cntM f L := by
  obtain ⟨e, he, _, hl, h0, _⟩ := h.last
  unfold rowsW
  rw [← List.countP_eq_length_filter, cntM_R]
  refine cnt_sheet L (z0 f) _ h.pw ?_
  rw [he, tot_z, hl]
  show ((totE e).toNat : Int) = totE e - 0
  omega
theorem rowsW_len {f : Bool} {L : List En} (h : ShOk f L) : (rowsW f L).length ≤ 256 := by
  obtain ⟨e, he, _, hl, h0, h8⟩ := h.last
  unfold rowsW
  refine Nat.le_trans (List.length_filter_le _ _) ?_
  rw [allW_size]
  exact Nat.le_trans (Nat.pow_le_pow_right (by decide) (show (lastT (z0 f) L).toNat ≤ 8 by omega)) (by decide)
theorem rowsW_wid {f : Bool} {L : List En} (h : ShOk f L) {v : List Bool} (hv : v ∈ rowsW f L) : v.length ≤ 8 := by
  obtain ⟨e, he, _, hl, h0, h8⟩ := h.last
  have := ((rowsW_mem h).mp hv).1
  omega
theorem rowsW_fit {f : Bool} {L : List En} (h : ShOk f L) : (rowsW f L).isEmpty = !fitM f L := by
  obtain ⟨e, he, _, hl, h0, h8⟩ := h.last
  rw [fitM_G]
  cases hf : fitG (z0 f) L with
  | true =>
    obtain ⟨v, v1, v2, _⟩ := reach L (z0 f) 0 0 h.pw (by rw [hl, tot_z]; omega) hf (Nat.zero_le _) (by simp [lowG]) (by simp [highG]) (by simp [lowG])
    have hv : v ∈ rowsW f L := (rowsW_mem h).mpr ⟨by rw [v1, tot_z]; omega, v2⟩
    cases c : rowsW f L with
    | nil => rw [c] at hv; cases hv
    | cons _ _ => rfl
  | false =>
    cases c : rowsW f L with
    | nil => rfl
    | cons v r =>
      have hv : v ∈ rowsW f L := by rw [c]; exact List.mem_cons_self
      obtain ⟨a1, a2⟩ := (rowsW_mem h).mp hv
      have := (within L (z0 f) v 0 h.pw (by rw [a1, tot_z]; omega) a2 (Nat.zero_le _)).1
      rw [hf] at this; cases this
/-- the first wrong entry -/
theorem ccL_take (f : Bool) (L : List En) (n : Nat) : ccL f (L.take n) = (ccL f L).take n := by
  unfold ccL stepsF befM
  have key : ∀ (L : List En) (p : En) (n : Nat), List.zipWith ccE (L.take n) (List.zipWith En.sub (L.take n) (p :: L.take n)) = (List.zipWith ccE L (List.zipWith En.sub L (p :: L))).take n := by
    intro L
    induction L with
    | nil => intro p n; simp
    | cons e r ih =>
      intro p n
      cases n with
      | zero => rfl
      | succ n =>
        rw [List.take_succ_cons, List.zipWith_cons_cons, List.zipWith_cons_cons, List.zipWith_cons_cons, List.zipWith_cons_cons, List.take_succ_cons, ih e n]
  exact key L _ n
def badL (f : Bool) (L : List En) : List Int := (irg 0 (L.length : Int)).filter fun i => !fitM f (L.take (i.toNat + 1))
theorem fit_take_iff {f : Bool} {L : List En} {n : Nat} : fitM f (L.take n) = true ↔ ∀ l ∈ (ccL f L).take n, l.isEmpty = false := by
  unfold fitM fwM
  rw [ccL_take, Option.isNone_iff_eq_none, List.findIdx?_eq_none_iff]
theorem bad_fw {f : Bool} {L : List En} : match fwM f L with
    | none => badL f L = []
    | some j => j < L.length ∧ badL f L = irg j L.length := by
  cases e : fwM f L with
  | none =>
    show badL f L = []
    unfold badL
    rw [List.filter_eq_nil_iff]
    intro i _
    have : fitM f (L.take (i.toNat + 1)) = true := fit_take_iff.mpr fun l hl => by
      unfold fwM at e
      exact List.findIdx?_eq_none_iff.mp e l (List.mem_of_mem_take hl)
    rw [this]; decide
  | some j =>
    show j < L.length ∧ badL f L = irg j L.length
    unfold fwM at e
    obtain ⟨h1, h2, h3⟩ := List.findIdx?_eq_some_iff_getElem.mp e
    have hj : j < L.length := by rw [ccL_len] at h1; exact h1
    refine ⟨hj, srt_uniq ((irg_lt _ _).sublist List.filter_sublist) (irg_lt _ _) fun x => ?_⟩
    unfold badL
    rw [List.mem_filter, mem_irg, mem_irg]
    constructor
    · rintro ⟨g1, g2⟩
      refine ⟨?_, g1.2⟩
      rcases Int.lt_or_le x j with c | c
      · exfalso
        have : fitM f (L.take (x.toNat + 1)) = true := fit_take_iff.mpr fun l hl => by
          obtain ⟨m, hm, rfl⟩ := List.mem_take_iff_getElem.mp hl
          have := h3 m (by omega)
          simpa using this
        rw [this] at g2; cases g2
      · exact c
    · rintro ⟨g1, g2⟩
      refine ⟨⟨by omega, g2⟩, ?_⟩
      cases c : fitM f (L.take (x.toNat + 1)) with
      | false => rfl
      | true =>
        have := fit_take_iff.mp c _ (List.mem_take_iff_getElem.mpr ⟨j, by omega, rfl⟩)
        rw [this] at h2; cases h2
theorem lowN_G {p : En} {f : Bool} : ∀ (L : List En) (i : Nat), lowN (ccL f L) i = lowG (z0 f) (L.take i) ∧ highN (ccL f L) i = highG (z0 f) (L.take i) := by
  have key : ∀ (L : List En) (p : En) (i : Nat), lowN (List.zipWith ccE L (List.zipWith En.sub L (p :: L))) i = lowG p (L.take i) ∧ highN (List.zipWith ccE L (List.zipWith En.sub L (p :: L))) i = highG p (L.take i) := by
    intro L
    induction L with
    | nil => intro p i; simp [lowN, highN, lowG, highG]
    | cons e r ih =>
      intro p i
      cases i with
      | zero => exact ⟨rfl, rfl⟩
      | succ i =>
        obtain ⟨i1, i2⟩ := ih e i
        unfold lowN at i1 ⊢
        unfold highN at i2 ⊢
        rw [List.take_succ_cons, List.zipWith_cons_cons, List.zipWith_cons_cons, List.take_succ_cons, List.map_cons, List.map_cons, List.sum_cons, List.sum_cons, i1, i2]
        exact ⟨rfl, rfl⟩
  exact fun L i => key L _ i
/-- the numbers of serve changes at an entry -/
def ctE (f : Bool) (e : En) (v : List Bool) : S5 := stM f (v.take (e.a + e.b).toNat)
theorem ct_chs (f : Bool) (e : En) (v : List Bool) : (ctE f e v).x + (ctE f e v).y = (chs f (v.take (totE e).toNat) : Int) := by
  have := (fold_chs (v.take (totE e).toNat) ⟨0, 0, f, 0, 0⟩).1
  unfold ctE DL.stM totE
  unfold totE at this
  rw [this]
  simp
theorem evs_mem {f : Bool} {L : List En} {k : Nat} {n : Int} (hp : (highN (ccL f L) (k + 1) - lowN (ccL f L) (k + 1)) % 2 = 0) : n ∈ evs f L k ↔ lowN (ccL f L) (k + 1) ≤ n ∧ n ≤ highN (ccL f L) (k + 1) ∧ (n - lowN (ccL f L) (k + 1)) % 2 = 0 := by
  unfold evs irgC
  rw [List.mem_map]
  constructor
  · rintro ⟨i, hi, rfl⟩
    rw [List.mem_range] at hi
    omega
  · rintro ⟨h1, h2, h3⟩
    exact ⟨((n - lowN (ccL f L) (k + 1)) / 2).toNat, by rw [List.mem_range]; omega, by omega⟩
theorem seen_iff {f : Bool} {L : List En} (h : ShOk f L) {i : Nat} {e : En} (he : L[i]? = some e) {n : Int} :
    (∃ v ∈ rowsW f L, n = (ctE f e v).x + (ctE f e v).y) ↔ fitM f L = true ∧ n ∈ evs f L i := by
  obtain ⟨z, hz, _, hl, h0, h8⟩ := h.last
  have hi := (List.getElem?_eq_some_iff.mp he).1
  have hli : lastT (z0 f) (L.take (i + 1)) = totE e := lastT_of (last_take he)
  obtain ⟨g1, g2⟩ := lowN_G (p := z0 f) (f := f) L (i + 1)
  constructor
  · rintro ⟨v, hv, rfl⟩
    obtain ⟨a1, a2⟩ := (rowsW_mem h).mp hv
    obtain ⟨b1, b2, b3, b4⟩ := within L (z0 f) v (i + 1) h.pw (by rw [a1, tot_z]; omega) a2 hi
    rw [hli, tot_z, Int.sub_zero] at b2 b3 b4
    have hp := (low_high (L.take (i + 1)) (z0 f) (fit_take L (z0 f) (i + 1) b1)).2
    refine ⟨by rw [fitM_G]; exact b1, ?_⟩
    rw [evs_mem (by rw [g1, g2]; exact hp), g1, g2, ct_chs]
    exact ⟨b2, b3, b4⟩
  · rintro ⟨hf, hn⟩
    rw [fitM_G] at hf
    have hp := (low_high (L.take (i + 1)) (z0 f) (fit_take L (z0 f) (i + 1) hf)).2
    rw [evs_mem (by rw [g1, g2]; exact hp), g1, g2] at hn
    obtain ⟨v, v1, v2, v3⟩ := reach L (z0 f) (i + 1) n h.pw (by rw [hl, tot_z]; omega) hf hi hn.1 hn.2.1 hn.2.2
    rw [hli, tot_z, Int.sub_zero] at v3
    refine ⟨v, (rowsW_mem h).mpr ⟨by rw [v1, tot_z]; omega, v2⟩, ?_⟩
    rw [ct_chs]
    exact v3.symm
theorem ct_rot (f : Bool) (e : En) (v : List Bool) (p q : Nat) : ((ctE f e v).x % p, (ctE f e v).y % q) = rotP f p q ((ctE f e v).x + (ctE f e v).y) := by
  obtain ⟨h1, h2⟩ := rot_stM f (v.take (e.a + e.b).toNat)
  unfold rotP
  unfold ctE
  rw [← h1, ← h2]
theorem ct_bd {f : Bool} {L : List En} (h : ShOk f L) {v : List Bool} (hv : v ∈ rowsW f L) (e : En) : 0 ≤ (ctE f e v).x ∧ 0 ≤ (ctE f e v).y ∧ (ctE f e v).x + (ctE f e v).y ≤ 8 := by
  have hw := rowsW_wid h hv
  obtain ⟨_, _, h3, h4⟩ := stM_nn f (v.take (e.a + e.b).toNat)
  refine ⟨h3, h4, ?_⟩
  rw [ct_chs]
  have key : ∀ (u : List Bool) (s : Bool), chs s u ≤ u.length := by
    intro u
    induction u with
    | nil => intro s; exact Nat.le_refl _
    | cons b u ih => intro s; rw [chs, List.length_cons]; have := ih b; split <;> omega
  have := key (v.take (totE e).toNat) f
  rw [List.length_take] at this
  omega
theorem evs_lt (f : Bool) (L : List En) (k : Nat) : (evs f L k).Pairwise (· < ·) := by
  unfold evs irgC
  rw [List.pairwise_map]
  exact List.pairwise_lt_range.imp fun h => by omega
def sp_common : DSp := fun ds S Q => ∃ a b : Nat, ds = [.int a, .int b] ∧ (0 < a ∧ a ≤ 1000 ∧ b ≤ 1000) ∧ Q (.int (Nat.gcd a b : Nat)) S
def sp_l_common : DSp := sp_common
def sp_period : DSp := fun ds S Q => ∃ p q : Nat, ds = [.tup [.int p, .int q]] ∧ (0 < p ∧ p ≤ 300 ∧ 0 < q ∧ q ≤ 300) ∧ Q (.int (perM p q : Nat)) S
def sp_rotations_after : DSp := fun ds S Q => ∃ (f : Bool) (n : Int), ds = [.str (sd f), .int n] ∧ (0 ≤ n ∧ n ≤ 1000000) ∧ Q (.tup [.int (rotA f n), .int (rotB f n)]) S
def sp_together : DSp := fun ds S Q => ∃ (f : Bool) (p q : Nat) (wa wb i j sh : Int), ds = [.tup [.int p, .int q], .str (sd f), .tup [.int wa, .int wb], .int i, .int j, .int sh] ∧ (0 < p ∧ p ≤ 300 ∧ 0 < q ∧ q ≤ 300) ∧ Q (.int (togM f p q wa wb i j sh)) S
def sp_best_shift : DSp := fun ds S Q => ∃ (f : Bool) (p q : Nat) (wa wb i j : Int), ds = [.tup [.int p, .int q], .str (sd f), .tup [.int wa, .int wb], .int i, .int j] ∧ (0 < p ∧ p ≤ 300 ∧ 0 < q ∧ q ≤ 300) ∧ Q (.tup [.int (bestN (togM f p q wa wb i j) p).1, .int (bestN (togM f p q wa wb i j) p).2]) S
def sp_in_front : DSp := fun ds S Q => ∃ a t w p : Int, ds = [.int a, .int t, .int w, .int p] ∧ 0 < a ∧ Q (.bl (inF a t w p)) S
def sp_l_like : DSp := sp_like 4
def allD (n : Nat) : List D := (allW n).map fun w => .str (tx w)
def extD (L : List (List Bool)) : List D := (L.flatMap fun w => [w ++ [true], w ++ [false]]).map fun w => .str (tx w)
theorem all0 : [D.str ("" : Str)] = allD 0 := by show _ = [D.str (tx [])]; rw [tx_nil]
theorem allD_len (n : Nat) : (allD n).length = 2 ^ n := by unfold allD; rw [List.length_map, allW_size]
theorem allD_get {n j : Nat} {d : D} (h : (allD n)[j]? = some d) : ∃ w, (allW n)[j]? = some w ∧ d = .str (tx w) ∧ w.length = n := by
  unfold allD at h
  rw [List.getElem?_map] at h
  cases e : (allW n)[j]? with
  | none => rw [e] at h; cases h
  | some w => rw [e] at h; cases h; exact ⟨w, rfl, rfl, allW_len n w (List.mem_of_getElem? e)⟩
theorem extD_len (L : List (List Bool)) : (extD L).length = 2 * L.length := by
  unfold extD
  rw [List.length_map, List.length_flatMap]
  induction L with
  | nil => rfl
  | cons x l ih => rw [List.map_cons, List.sum_cons, ih, List.length_cons]; simp; omega
theorem extD_snoc (L : List (List Bool)) (w : List Bool) : extD (L ++ [w]) = extD L ++ [.str (tx (w ++ [true])), .str (tx (w ++ [false]))] := by
  unfold extD
  rw [List.flatMap_append, List.map_append]; rfl
def sp_l_all : DSp := fun ds S Q => ∃ n : Nat, ds = [.int n] ∧ n ≤ 11 ∧ Q (.lst (allD n)) S
theorem pow_le {n : Nat} (h : n ≤ 11) : 2 ^ n ≤ 2048 := Nat.pow_le_pow_right (by decide) h
theorem tx_A (w : List Bool) : tx w ++ ("A" : Str) = tx (w ++ [true]) := tx_snoc w true
theorem tx_B (w : List Bool) : tx w ++ ("B" : Str) = tx (w ++ [false]) := tx_snoc w false

def sp_choices : DSp := fun ds S Q => ∃ n k, ds = [.int n, .int k] ∧ n ≤ 1000 ∧ Q (.int (choicesM n k)) S
def sp_change_choices : DSp := fun ds S Q => ∃ s x y l, ds = [.str (sd s), .int x, .int y, .str (sd l)] ∧ (-1000 ≤ x ∧ x ≤ 1000 ∧ -1000 ≤ y ∧ y ≤ 1000) ∧ Q (.lst ((ccF s x y l).map D.int)) S
def sp_l_sheet : DSp := fun ds S Q => ∃ (T : Addr) (tp : MO) (f : Bool) (w : List Bool), ds = [.ref T, .str (sd f), .str (tx w), .int 12] ∧ w.length ≤ 8 ∧ S T = some tp ∧ TapeOk tp ∧ ∀ (L : List En) (tp' : MO), ShOk f L → TapeOk tp' →
  Q (.tup (L.map En.D)) (updS S T tp')

def rowsD (f : Bool) (L : List En) : List D := (rowsW f L).map fun w => .str (tx w)
def sp_l_fitting : DSp := fun ds S Q => ∃ (f : Bool) (L : List En), ds = [.str (sd f), .tup (L.map En.D)] ∧ ShOk f L ∧ Q (.lst (rowsD f L)) S
theorem eqv_nilD (ds : List D) : D.eqv (.lst ds) (.lst []) = ds.isEmpty := by
  cases ds <;> rfl
/-- the sheet under way -/
structure ShP (f : Bool) (w : List Bool) (i : Nat) (L : List En) : Prop where
  len : L.length ≤ i
  pw : (z0 f :: L).Pairwise LeE
  le : ∀ e ∈ L, LeE e (enO (stM f (w.take i)))
  ne : w.length < i → L ≠ []
theorem z_le (f : Bool) (w : List Bool) : LeE (z0 f) (enO (stM f w)) := by
  have := stM_nn f w
  exact ⟨this.1, this.2.1⟩
theorem ShP.nil (f : Bool) (w : List Bool) : ShP f w 0 [] := ⟨Nat.le_refl _, List.pairwise_singleton _ _, fun e he => absurd he List.not_mem_nil, fun h => by omega⟩
theorem le_up {f : Bool} {w : List Bool} {i : Nat} {e : En} (h : LeE e (enO (stM f (w.take i)))) : LeE e (enO (stM f (w.take (i + 1)))) := by
  have r := stM_split (f := f) (w := w) (i := i) (j := i + 1) (by omega)
  unfold LeE enO at h ⊢
  have h1 := r.1
  have h2 := r.2.1
  simp only at h ⊢
  omega
theorem ShP.skip {f : Bool} {w : List Bool} {i : Nat} {L : List En} (h : ShP f w i L) (hi : i ≠ w.length) : ShP f w (i + 1) L where
  len := by have := h.len; omega
  pw := h.pw
  le := fun e he => le_up (h.le e he)
  ne := fun g => h.ne (by omega)
theorem ShP.put {f : Bool} {w : List Bool} {i : Nat} {L : List En} (h : ShP f w i L) : ShP f w (i + 1) (L ++ [enO (stM f (w.take i))]) where
  len := by have := h.len; rw [List.length_append, List.length_singleton]; omega
  pw := by
    rw [← List.cons_append, List.pairwise_append]
    refine ⟨h.pw, List.pairwise_singleton _ _, fun a ha b hb => ?_⟩
    rw [List.mem_singleton.mp hb]
    rcases List.mem_cons.mp ha with e | ha
    · rw [e]; exact z_le f _
    · exact h.le a ha
  le := fun e he => by
    rcases List.mem_append.mp he with he | he
    · exact le_up (h.le e he)
    · rw [List.mem_singleton.mp he]
      exact le_up ⟨Int.le_refl _, Int.le_refl _⟩
  ne := fun _ z => by simp at z
theorem ShP.ok {f : Bool} {w : List Bool} {L : List En} (h : ShP f w (w.length + 1) L) (hw : w.length ≤ 8) : ShOk f L where
  ne := h.ne (by omega)
  len := by have := h.len; omega
  pw := h.pw
  tot := fun e he => by
    have h1 := h.le e he
    have ab := stM_ab f (w.take (w.length + 1)) ⟨0, 0, f, 0, 0⟩
    have hl := ab_len2 (w.take (w.length + 1))
    rw [List.take_of_length_le (by omega)] at ab hl h1
    unfold LeE enO at h1
    unfold totE
    unfold DL.stM at h1
    simp only at h1 ab
    omega
def abE (e : En) : Int × Int := (e.a, e.b)
theorem le_ab : ∀ L : List En, L.Pairwise LeE ↔ (L.map abE).Pairwise fun x y => x.1 ≤ y.1 ∧ x.2 ≤ y.2 := fun L => by
  rw [List.pairwise_map]; rfl
theorem set_ab {L : List En} {j : Nat} {e : En} (h : L[j]? = some e) {e2 : En} (h2 : abE e2 = abE e) : (L.set j e2).map abE = L.map abE := by
  rw [List.map_set, h2]
  refine List.ext_getElem? fun i => ?_
  rw [List.getElem?_set]
  by_cases c : j = i
  · subst c
    rw [if_pos rfl]
    have := (List.getElem?_eq_some_iff.mp h).1
    rw [if_pos (by rw [List.length_map]; exact this), List.getElem?_map, h]; rfl
  · rw [if_neg c]
theorem ShOk.flip {f : Bool} {L : List En} (h : ShOk f L) {j : Nat} {e : En} (he : L[j]? = some e) : ShOk f (L.set j ⟨e.a, e.b, !e.s⟩) where
  ne := fun z => h.ne (by
    have := congrArg List.length z
    rw [List.length_set] at this
    exact List.length_eq_zero_iff.mp this)
  len := by rw [List.length_set]; exact h.len
  pw := by
    have := (le_ab _).mp h.pw
    refine (le_ab _).mpr ?_
    rw [List.map_cons] at this ⊢
    rw [set_ab he (show abE ⟨e.a, e.b, !e.s⟩ = abE e from rfl)]
    exact this
  tot := fun z hz => by
    rcases List.mem_or_eq_of_mem_set hz with hz | hz
    · exact h.tot z hz
    · rw [hz]; exact h.tot e (List.mem_of_getElem? he)
theorem cut_last {α : Type} {l : List α} (h : l.length ≤ 12) : cutL l (some (-12)) none = l := by
  unfold cutL
  have e1 : HT.sIx l.length 0 (some (-12)) = 0 := by
    have : (l.length : Int) + -12 ≤ 0 := by omega
    simp [HT.sIx]; omega
  have e2 : HT.sIx l.length l.length none = l.length := rfl
  rw [e1, e2]
  simp
def badD (f : Bool) (w : List Bool) : D → Bool := fun d => match d with
  | .tup [.int a, .int b, .str s] => !D.eqv (.tup [.int (stM f (w.take (a + b).toNat)).a, .int (stM f (w.take (a + b).toNat)).b, .str (sd (stM f (w.take (a + b).toNat)).s)]) (.tup [.int a, .int b, .str s])
  | _ => false

theorem beq_dec2 {α : Type} [DecidableEq α] (a b : α) : (a == b) = decide (a = b) := rfl
theorem bad_D (f : Bool) (w : List Bool) (e : En) : badD f w e.D = !eqE (runE (z0 f) (w.take (totE e).toNat)) e := by
  have h := (fold_chs (w.take (e.a + e.b).toNat) ⟨0, 0, f, 0, 0⟩).2
  unfold En.D badD totE
  simp only
  congr 1
  have e1 : (stM f (w.take (e.a + e.b).toNat)) = List.foldl S5.next ⟨0, 0, f, 0, 0⟩ (w.take (e.a + e.b).toNat) := rfl
  rw [e1]
  have e2 : runE (z0 f) (w.take (e.a + e.b).toNat) = enO (List.foldl S5.next ⟨0, 0, f, 0, 0⟩ (w.take (e.a + e.b).toNat)) := by rw [h]; rfl
  rw [e2]
  generalize List.foldl S5.next ⟨0, 0, f, 0, 0⟩ (w.take (e.a + e.b).toNat) = m
  unfold eqE enO
  simp only
  rw [Bool.eq_iff_iff]
  rw [show D.eqv (.tup [.int m.a, .int m.b, .str (sd m.s)]) (.tup [.int e.a, .int e.b, .str (sd e.s)]) = (decide (m.a = e.a) && (decide (m.b = e.b) && decide (sd m.s = sd e.s))) from by simp only [D.eqv, D.toPy, D.toPyL, PyData.eqv, PyData.eqvAll, Bool.and_true, beq_dec2]]
  rw [dsd]
  cases m.s <;> cases e.s <;> simp [Bool.and_assoc]
theorem bad_L (f : Bool) (w : List Bool) (L : List En) : (((L.map En.D).filter (badD f w)).map fun _ => D.int 1).isEmpty = okE (z0 f) L w := by
  unfold okE
  induction L with
  | nil => rfl
  | cons e l ih =>
    rw [List.map_cons, List.filter_cons, bad_D, List.all_cons, ← ih]
    show _ = (eqE (runE (z0 f) (List.take (totE e - 0).toNat w)) e && _)
    rw [Int.sub_zero]
    cases eqE (runE (z0 f) (w.take (totE e).toNat)) e with
    | true => rfl
    | false => rfl
theorem ok_ones (l : List D) : D.ok 64 (.lst (l.map fun _ => D.int 1)) = true := ok_lst.mpr fun d h => by
  obtain ⟨_, _, rfl⟩ := List.mem_map.mp h
  rfl
theorem ok_en (a b : Int) (s : Bool) : D.ok 64 (.tup [.int a, .int b, .str (sd s)]) = true := by
  simp [D.ok, D.okL, strOk_sd]

theorem ok_tx (w : List Bool) : D.ok 64 (.str (tx w)) = true := by
  show PyData.strOk (tx w) = true
  unfold PyData.strOk tx
  rw [Array.all_eq_true']
  intro c hc
  have hc : c ∈ (w.map cpS) := by simpa using hc
  obtain ⟨b, _, rfl⟩ := List.mem_map.mp hc
  cases b <;> decide
theorem rowsD_len {f : Bool} {L : List En} (h : ShOk f L) : ((rowsD f L).length : Int) = cntM f L := by
  unfold rowsD; rw [List.length_map]; exact rowsW_cnt h
theorem rowsD_emp {f : Bool} {L : List En} (h : ShOk f L) : (rowsD f L).isEmpty = !fitM f L := by
  rw [← rowsW_fit h]; unfold rowsD; cases rowsW f L <;> rfl
theorem ok_rows (f : Bool) (L : List En) : D.ok 64 (.lst (rowsD f L)) = true := ok_lst.mpr fun d h => by
  obtain ⟨w, _, rfl⟩ := List.mem_map.mp h
  exact ok_tx w
theorem mc_of {α : Type} {l : List α} {ti : TDI} {G : TDG} {tt : TDT} {te : TD} {vs : List Nat} {ρ : DSt} {S : Sto} {Q : DQ} (g h : α → D) (hti : ∀ R : List D → Sto → Prop, R (l.map g) S → ti ρ S R) (hl : l.length ≤ 16777216)
    (hh : ∀ a ∈ l, ∀ (R : DQ) (R0 : Sto → Prop), R (h a) S → G (g a) (dwipe ρ vs) S fun ρ2 S2 => tt ρ2 S2 fun b S3 => Br b (te ρ2 S3 R) (R0 S3)) (hq : Q (.lst (l.map h)) S) : dLc ti G tt te vs ρ S Q := by
  refine ⟨hti _ ⟨sz_le (by rw [List.length_map]; exact hl), fun i acc S' => acc = (l.take i).map h ∧ S' = S, ⟨rfl, rfl⟩, ?_, ?_⟩⟩
  · rintro i d acc S' hd ⟨rfl, rfl⟩
    rw [List.getElem?_map] at hd
    cases e : l[i]? with
    | none => rw [e] at hd; cases hd
    | some a =>
      rw [e] at hd
      have hd : g a = d := Option.some.inj hd
      subst hd
      refine hh a (List.mem_of_getElem? e) (fun y S4 => (l.take i).map h ++ [y] = (l.take (i + 1)).map h ∧ S4 = S') _ ⟨?_, rfl⟩
      rw [take_snoc e, List.map_append]; rfl
  · rintro acc S' ⟨rfl, rfl⟩
    rw [List.length_map, List.take_length]
    exact hq

theorem pairs_iff {f : Bool} {L : List En} (h : ShOk f L) {i : Nat} {e : En} (he : L[i]? = some e) {p q : Nat} {x : Int × Int} : x ∈ ((rowsW f L).map fun v => ((ctE f e v).x % (p : Int), (ctE f e v).y % (q : Int))) ↔ fitM f L = true ∧ ∃ n ∈ evs f L i, x = rotP f p q n := by
  rw [List.mem_map]
  constructor
  · rintro ⟨v, hv, rfl⟩
    obtain ⟨a, b⟩ := (seen_iff h he (n := (ctE f e v).x + (ctE f e v).y)).mp ⟨v, hv, rfl⟩
    exact ⟨a, _, b, ct_rot f e v p q⟩
  · rintro ⟨a, n, hn, rfl⟩
    obtain ⟨v, hv, rfl⟩ := (seen_iff h he).mpr ⟨a, hn⟩
    exact ⟨v, hv, ct_rot f e v p q⟩
theorem sums_iff {f : Bool} {L : List En} (h : ShOk f L) (hf : fitM f L = true) {i : Nat} {e : En} (he : L[i]? = some e) {x : Int} : x ∈ ((rowsW f L).map fun v => (ctE f e v).x + (ctE f e v).y) ↔ x ∈ evs f L i := by
  rw [List.mem_map]
  constructor
  · rintro ⟨v, hv, rfl⟩
    exact ((seen_iff h he (n := (ctE f e v).x + (ctE f e v).y)).mp ⟨v, hv, rfl⟩).2
  · intro hn
    obtain ⟨v, hv, rfl⟩ := (seen_iff h he).mpr ⟨hf, hn⟩
    exact ⟨v, hv, rfl⟩
theorem pairs_few {f : Bool} {L : List En} (h : ShOk f L) (e : En) {p q : Nat} {l : List (Int × Int)} (hn : l.Nodup) (hs : ∀ x ∈ l, x ∈ ((rowsW f L).map fun v => ((ctE f e v).x % (p : Int), (ctE f e v).y % (q : Int)))) : l.length < 63 := by
  have := nodup_le (m := (irg 0 9).map (rotP f p q)) hn fun x hx => by
    obtain ⟨v, hv, rfl⟩ := List.mem_map.mp (hs x hx)
    have b := ct_bd h hv e
    rw [ct_rot]
    exact List.mem_map.mpr ⟨_, mem_irg.mpr ⟨by omega, by omega⟩, rfl⟩
  rw [List.length_map, irg_len] at this
  have : ((9 : Int) - 0).toNat = 9 := by decide
  omega
theorem ltL_nodup {l : List (Int × Int)} (h : l.Pairwise ltL) : l.Nodup := h.imp fun {a b} h e => by
  subst e
  rcases h with h | ⟨_, h⟩ <;> exact absurd h (by omega)
theorem like_prs {l : List (Int × Int)} (h : l.length ≤ 4096) : likeOk 4 (.lst (l.map DL.pairD)) = true := by
  rw [likeOk, Bool.and_eq_true, decide_eq_true_eq, List.all_eq_true, List.length_map]
  refine ⟨h, fun d hd => ?_⟩
  obtain ⟨x, _, rfl⟩ := List.mem_map.mp hd
  rfl
theorem evs_shape {f : Bool} {L : List En} (h : ShOk f L) (hf : fitM f L = true) {i : Nat} (hi : i < L.length) : ∃ m : Nat, evs f L i = irgC (lowN (ccL f L) (i + 1)) 2 (m + 1) ∧ lowN (ccL f L) (i + 1) + m * 2 = highN (ccL f L) (i + 1) ∧ ((highN (ccL f L) (i + 1) + 1 - lowN (ccL f L) (i + 1) + 1) / 2).toNat = m + 1 ∧ 0 ≤ lowN (ccL f L) (i + 1) ∧ highN (ccL f L) (i + 1) ≤ 6000 := by
  obtain ⟨g1, g2⟩ := lowN_G (p := z0 f) (f := f) L (i + 1)
  have hb := low_bd h.sh hf (i + 1) hi
  rw [fitM_G] at hf
  obtain ⟨a1, a2⟩ := low_high (L.take (i + 1)) (z0 f) (fit_take L (z0 f) (i + 1) hf)
  rw [← g1, ← g2] at a1 a2
  have := h.len
  refine ⟨((highN (ccL f L) (i + 1) - lowN (ccL f L) (i + 1)) / 2).toNat, ?_, by omega, by omega, by omega, by omega⟩
  unfold evs
  congr 1
  omega

local macro_rules | `(tactic| walk_at "d") => `(tactic| ((conv => whnf); (try (first
  | ((with_reducible refine RdP.of (x' := ?x1) (y' := ?x2) ?h1 ?h2 ?_); (case h1 => first | with_reducible exact peek_int | with_reducible exact peek_str | with_reducible exact peek_bl | with_reducible exact peek_tup | with_reducible exact peek_lst | with_reducible exact peek_updS | with_reducible exact peek_ref (by assumption) | rfl); (case h2 => first | with_reducible exact peek_int | with_reducible exact peek_str | with_reducible exact peek_bl | with_reducible exact peek_tup | with_reducible exact peek_lst | with_reducible exact peek_updS | with_reducible exact peek_ref (by assumption) | rfl); walk_at "d")
  | ((with_reducible refine PeekP.of (d' := ?x1) ?h1 ?_); (case h1 => first | with_reducible exact peek_int | with_reducible exact peek_str | with_reducible exact peek_bl | with_reducible exact peek_tup | with_reducible exact peek_lst | with_reducible exact peek_updS | with_reducible exact peek_ref (by assumption) | rfl); walk_at "d")
  | ((with_reducible refine CbP.of1 (a' := ?x1) ?h1 ?_); (case h1 => first | with_reducible exact peek_int | with_reducible exact peek_str | with_reducible exact peek_bl | with_reducible exact peek_tup | with_reducible exact peek_lst | with_reducible exact peek_updS | with_reducible exact peek_ref (by assumption) | rfl); walk_at "d")
  | ((with_reducible refine CbP.of2 (a' := ?x1) (b' := ?x2) ?h1 ?h2 ?_); (case h1 => first | with_reducible exact peek_int | with_reducible exact peek_str | with_reducible exact peek_bl | with_reducible exact peek_tup | with_reducible exact peek_lst | with_reducible exact peek_updS | with_reducible exact peek_ref (by assumption) | rfl); (case h2 => first | with_reducible exact peek_int | with_reducible exact peek_str | with_reducible exact peek_bl | with_reducible exact peek_tup | with_reducible exact peek_lst | with_reducible exact peek_updS | with_reducible exact peek_ref (by assumption) | rfl); walk_at "d")
  | ((with_reducible refine br_t ?_); walk_at "d") | ((with_reducible refine br_f ?_); walk_at "d") | ((with_reducible refine br_not ?_); walk_at "d")
  | ((with_reducible refine br_to (decide_eq_true (Eq.refl _)) ?_); walk_at "d")
  | ((with_reducible refine br_to decAA ?_); walk_at "d") | ((with_reducible refine br_to decBB ?_); walk_at "d") | ((with_reducible refine br_no decAB ?_); walk_at "d") | ((with_reducible refine br_no decBA ?_); walk_at "d")
  | ((with_reducible refine br_to sdtA ?_); walk_at "d") | ((with_reducible refine br_to sdfB ?_); walk_at "d") | ((with_reducible refine br_to sdtt ?_); walk_at "d") | ((with_reducible refine br_to sdff ?_); walk_at "d")
  | ((with_reducible refine br_no sdtB ?_); walk_at "d") | ((with_reducible refine br_no sdfA ?_); walk_at "d") | ((with_reducible refine br_no sdtf ?_); walk_at "d") | ((with_reducible refine br_no sdft ?_); walk_at "d")
  | ((with_reducible refine IsLst.of updS_same ?_); walk_at "d")
  | ((with_reducible refine And.intro True.intro ?_); walk_at "d")
  | ((with_reducible refine And.intro (sz_lit ?kk) ?_); (case kk => with_unfolding_all rfl); walk_at "d")
  | ((with_reducible refine And.intro (?kk : List.length _ = _) ?_); (case kk => with_unfolding_all rfl); walk_at "d")
  | ((with_reducible refine TheItem.of (d := ?x1) ?h1 ?_); (case h1 => first | with_reducible exact at0 | with_reducible exact at1 | with_reducible exact at2 | with_reducible exact at3 | with_reducible exact at4 | ((conv => lhs; arg 1; whnf); first | with_reducible exact at0 | with_reducible exact at1 | with_reducible exact at2 | with_reducible exact at3 | with_reducible exact at4)); walk_at "d")
  | ((with_reducible refine TheItem.of (o := ixN _ _) (d := ?x1) ?h1 ?_); (case h1 => with_unfolding_all first | exact ixN3_1 | exact ixN3_2); walk_at "d")))))

section
variable {P : Program} {w : World} {K : PySem.W.Frag} {mg : Str → Option Value} {base : Heap}
theorem ok_rotations_after (B : Bts mg) (F0 : FunD K mg "rotations_after" s_rotations_after ["first", "number"]) : FnD P w K mg base 1 "rotations_after" sp_rotations_after := by
  refine okF F0 sc_rotations_after (fun ds S Q h => by obtain ⟨_, _, e, _⟩ := h; subst e; rfl) fun f cdv A outer s H E hr => ⟨_, _, (dss_cons (ds_par (i := 2) (j := 3) rfl sc_rotations_after.nd (da_cons (de_op do_fdiv (dv 1) de_int) (da_cons (de_op do_fdiv (de_op (k_add (K := K)) (dv 1) de_int) de_int) da_nil)))
      (dss_one (ds_ret (de_if (dt_cmp (k_eq (K := K) (Room.u64 hr)) (dv 0) de_str) (de_tup (da_cons (dv 2) (da_cons (dv 3) da_nil))) (de_tup (da_cons (dv 3) (da_cons (dv 2) da_nil))))))), ?_⟩
  rintro ds S Q ⟨f, n, rfl, hn, q⟩
  walk_at "d"
  refine ⟨⟨by decide, small_log (by decide) (by decide)⟩, ?_⟩
  walk_at "d"
  refine ⟨⟨by decide, small_log (by decide) (by decide)⟩, ?_⟩
  walk_at "d"
  cases f <;> (walk_at "d"; exact Leave.now q)
theorem ok_choices (B : Bts mg) (F0 : FunD K mg "choices" s_choices ["many", "some"]) : FnD P w K mg base 1 "choices" sp_choices := by
  refine okF F0 sc_choices (fun ds S Q h => by obtain ⟨_, _, e, _⟩ := h; subst e; rfl) fun f cdv A outer s H E hr => ⟨_, _, (dss_cons (ds_if (dt_not (dt_chain (do_le) (do_le) de_int (dv 1) (dv 0))) (dss_one (ds_ret de_int)) dss_nil)
      (dss_cons (ds_set (i := 2) sc_choices.nd de_int)
      (dss_cons (ds_for PassesOwn.never rfl (di_rng1 (by rfl) B.range (dv 1)) (dg_name (i := 3) sc_choices.nd) (dss_one (ds_set (i := 2) sc_choices.nd (de_op do_fdiv (de_op do_mul (dv 2) (de_op do_sub (dv 0) (dv 3))) (de_op (k_add (K := K)) (dv 3) de_int)))))
      (dss_one (ds_ret (dv 2)))))), ?_⟩
  rintro ds S Q ⟨n, k, rfl, hn, q⟩
  walk_at "d"
  refine br_dec (fun h0 => ?_) (fun h0 => ?_)
  · walk_at "d"
    refine br_dec (fun h1 => ?_) (fun h1 => ?_)
    · walk_at "d"
      refine for_rng1 (n := k) (fun _ q => q) ⟨by omega, by omega⟩ (fun i ρ' S' => ∃ v, ρ' = [some (.int n), some (.int k), some (.int (fall n i)), v] ∧ S' = S) ⟨_, rfl, rfl⟩ ?_ ?_
      · rintro i ρ' S' hi ⟨v, rfl, rfl⟩
        walk_at "d"
        refine ⟨.inl (.inr ⟨by omega, by omega⟩), ?_⟩
        walk_at "d"
        refine ⟨⟨by omega, small_log (m := (i : Int) + 1) (by omega) (by omega)⟩, _, rfl, rfl⟩
      · rintro ρ' S' ⟨v, rfl, rfl⟩
        walk_at "d"
        refine Leave.now ?_
        rw [choicesM, if_pos ⟨h0, h1⟩] at q
        exact q
    · walk_at "d"
      rw [choicesM, if_neg (by omega)] at q; exact Leave.now q
  · walk_at "d"
    rw [choicesM, if_neg (by omega)] at q; exact Leave.now q
theorem ok_change_choices (B : Bts mg) (F0 : FunD K mg "change_choices" s_change_choices ["serving", "one", "other", "later"]) : FnD P w K mg base 1 "change_choices" sp_change_choices := by
  refine okF F0 sc_change_choices (fun ds S Q h => by obtain ⟨_, _, _, _, e, _⟩ := h; subst e; rfl) fun f cdv A outer s H E hr => ⟨_, _, (dss_cons (ds_asg (de_if (dt_cmp (k_eq (K := K) (Room.u64 hr)) (dv 0) de_str) (de_tup (da_cons (dv 1) (da_cons (dv 2) da_nil))) (de_tup (da_cons (dv 2) (da_cons (dv 1) da_nil)))) (k_dgTup (K := K) (n := 2) rfl (dgs_cons (dg_name (i := 4) sc_change_choices.nd) (dgs_cons (dg_name (i := 5) sc_change_choices.nd) dgs_nil))))
      (dss_cons (ds_if (dt_cmp (k_eq (K := K) (Room.u64 hr)) (dv 3) (dv 0)) (dss_cons (ds_if (dt_cmp (k_eq (K := K) (Room.u64 hr)) (dv 5) de_int) (dss_one (ds_ret (de_lst (da_cons de_int da_nil)))) dss_nil)
      (dss_one (ds_ret (de_lc (own := [("turn", 6)]) rfl sc_change_choices.nd (di_rng2 (by rfl) B.range de_int (de_op (k_add (K := K)) (de_callB (dc_min rfl) (by rfl) B.min bb_min (da_cons (dv 4) (da_cons (dv 5) da_nil))) de_int)) (blkOk_by (own := [("turn", 6)]) (N := ["serving", "one", "other", "later", "own", "far", "turn"]) (sc := (defScope s_change_choices)) (by decide +kernel)) (fun _ _ _ _ _ => (dg_name (i := 6) sc_change_choices.nd)) (fun _ _ _ _ _ => dts_nil) (fun _ _ _ _ _ => (de_op do_mul de_int (dv 6))))))) dss_nil)
      (dss_one (ds_ret (de_lc (own := [("turn", 6)]) rfl sc_change_choices.nd (di_rng1 (by rfl) B.range (de_op (k_add (K := K)) (de_callB (dc_min rfl) (by rfl) B.min bb_min (da_cons (dv 4) (da_cons (de_op do_sub (dv 5) de_int) da_nil))) de_int)) (blkOk_by (own := [("turn", 6)]) (N := ["serving", "one", "other", "later", "own", "far", "turn"]) (sc := (defScope s_change_choices)) (by decide +kernel)) (fun _ _ _ _ _ => (dg_name (i := 6) sc_change_choices.nd)) (fun _ _ _ _ _ => dts_nil) (fun _ _ _ _ _ => (de_op (k_add (K := K)) (de_op do_mul de_int (dv 6)) de_int))))))), ?_⟩
  rintro ds S Q ⟨s, x, y, l, rfl, hb, q⟩
  cases s with
  | true =>
    walk_at "d"
    cases l with
    | true =>
      walk_at "d"
      refine br_dec (fun h0 => ?_) (fun h0 => ?_)
      · walk_at "d"
        have e : [(0 : Int)] = ccM true x y := by rw [ccM, if_pos rfl, if_pos h0]
        exact Leave.now (show Q (.lst ([(0 : Int)].map D.int)) S by rw [e]; exact q)
      · walk_at "d"
        refine mc_rng2 (n := 1) (m := min x y + 1) (fun _ q => q) (fun _ q => by walk_at "d"; exact q) (by omega) (fun i => .int (2 * i)) (fun i h1 h2 R R0 r => ?_) ?_
        · walk_at "d"
          exact ⟨.inl (.inl ⟨by decide, by decide⟩), r⟩
        · have e : (irg 1 (min x y + 1)).map (fun t => 2 * t) = ccM true x y := by rw [ccM, if_pos rfl, if_neg h0]
          have q : Q (.lst ((ccM true x y).map D.int)) S := q
          rw [← e, List.map_map] at q
          exact Leave.now q
    | false =>
      walk_at "d"
      refine mc_rng1 (n := min x (y - 1) + 1) (fun _ q => by walk_at "d"; exact q) (by omega) (fun i => .int (2 * i + 1)) (fun i h1 h2 R R0 r => ?_) ?_
      · walk_at "d"
        refine ⟨.inl (.inl ⟨by decide, by decide⟩), ?_⟩
        walk_at "d"
        exact r
      · have e : (irg 0 (min x (y - 1) + 1)).map (fun t => 2 * t + 1) = ccM false x y := by rw [ccM, if_neg (by decide)]
        have q : Q (.lst ((ccM false x y).map D.int)) S := q
        rw [← e, List.map_map] at q
        exact Leave.now q
  | false =>
    walk_at "d"
    cases l with
    | false =>
      walk_at "d"
      refine br_dec (fun h0 => ?_) (fun h0 => ?_)
      · walk_at "d"
        have e : [(0 : Int)] = ccM true y x := by rw [ccM, if_pos rfl, if_pos h0]
        exact Leave.now (show Q (.lst ([(0 : Int)].map D.int)) S by rw [e]; exact q)
      · walk_at "d"
        refine mc_rng2 (n := 1) (m := min y x + 1) (fun _ q => q) (fun _ q => by walk_at "d"; exact q) (by omega) (fun i => .int (2 * i)) (fun i h1 h2 R R0 r => ?_) ?_
        · walk_at "d"
          exact ⟨.inl (.inl ⟨by decide, by decide⟩), r⟩
        · have e : (irg 1 (min y x + 1)).map (fun t => 2 * t) = ccM true y x := by rw [ccM, if_pos rfl, if_neg h0]
          have q : Q (.lst ((ccM true y x).map D.int)) S := q
          rw [← e, List.map_map] at q
          exact Leave.now q
    | true =>
      walk_at "d"
      refine mc_rng1 (n := min y (x - 1) + 1) (fun _ q => by walk_at "d"; exact q) (by omega) (fun i => .int (2 * i + 1)) (fun i h1 h2 R R0 r => ?_) ?_
      · walk_at "d"
        refine ⟨.inl (.inl ⟨by decide, by decide⟩), ?_⟩
        walk_at "d"
        exact r
      · have e : (irg 0 (min y (x - 1) + 1)).map (fun t => 2 * t + 1) = ccM false y x := by rw [ccM, if_neg (by decide)]
        have q : Q (.lst ((ccM false y x).map D.int)) S := q
        rw [← e, List.map_map] at q
        exact Leave.now q

theorem ok_steps (B : Bts mg) (F0 : FunD K mg "steps" s_steps ["first", "sheet"]) : FnD P w K mg base 1 "steps" sp_steps := by
  refine okF F0 sc_steps (fun ds S Q h => by obtain ⟨_, _, e, _⟩ := h; subst e; rfl) fun f cdv A outer s H E hr => ⟨_, _, (dss_cons (ds_par (i := 2) (j := 3) rfl sc_steps.nd (da_cons (de_lstO da_nil) (da_cons (de_tup (da_cons de_int (da_cons de_int (da_cons (dv 0) da_nil)))) da_nil)))
      (dss_cons (ds_for PassesOwn.never rfl (k_diTup (K := K) (dv 1)) (dg_name (i := 4) sc_steps.nd) (dss_cons (ds_expr (k_app (K := K) (dv 2) (de_tup (da_cons (de_op do_sub (k_ix (K := K) (dv 4) de_int) (k_ix (K := K) (dv 3) de_int)) (da_cons (de_op do_sub (k_ix (K := K) (dv 4) de_int) (k_ix (K := K) (dv 3) de_int)) (da_cons (k_ix (K := K) (dv 3) de_int) da_nil))))))
      (dss_one (ds_set (i := 3) sc_steps.nd (dv 4)))))
      (dss_one (ds_ret (dv 2))))), ?_⟩
  rintro ds S Q ⟨f, L, rfl, hL, q⟩
  walk_at "d"
  intro l hl
  walk_at "d"
  refine for_tup (L := L.map En.D) (fun _ q => q) (fun i ρ' S' => ∃ p v4, ρ' = [some (.str (sd f)), some (.tup (L.map En.D)), some (.ref l), some (En.D p), v4] ∧ (befM f L)[i]? = some p ∧ S' = updS S l (.lst (((stepsF f L).take i).map En.D))) ⟨⟨0, 0, f⟩, _, rfl, rfl, rfl⟩ ?_ ?_
  · rintro i d ρ' S' hd ⟨p, v4, rfl, hp, rfl⟩
    obtain ⟨e, he, rfl⟩ := mapD_get hd
    have hi := (List.getElem?_eq_some_iff.mp he).1
    have hst := stepsF_get he hp
    walk_at "d"
    refine ⟨sz_le (by rw [List.length_map, List.length_take]; omega), ?_⟩
    walk_at "d"
    refine ⟨e, _, rfl, by rw [befM_succ]; exact he, ?_⟩
    rw [updS_updS, take_snoc hst, List.map_append]; rfl
  · rintro ρ' S' ⟨p, v4, rfl, _, rfl⟩
    rw [List.length_map, ← stepsF_len f L, List.take_length]
    walk_at "d"
    exact Leave.lst hl q
theorem ok_all_choices (B : Bts mg) (F0 : FunD K mg "all_choices" s_all_choices ["first", "sheet"]) (F_change_choices : FnD P w K mg base 1 "change_choices" sp_change_choices) (F_steps : FnD P w K mg base 1 "steps" sp_steps) : FnD P w K mg base 2 "all_choices" sp_all_choices := by
  refine okF F0 sc_all_choices (fun ds S Q h => by obtain ⟨_, _, e, _⟩ := h; subst e; rfl) fun f cdv A outer s H E hr => ⟨_, _, (dss_cons (ds_set (i := 2) sc_all_choices.nd (de_lstO da_nil))
      (dss_cons (ds_for PassesOwn.never rfl (k_diZipX (K := K) (by rfl) B.zip (dv 1) (k_fn (K := K) F_steps (hr.mono (by decide)) (by rfl) (da_cons (dv 0) (da_cons (dv 1) da_nil)))) (k_dgTup (K := K) (n := 2) rfl (dgs_cons (dg_name (i := 3) sc_all_choices.nd) (dgs_cons (dg_name (i := 4) sc_all_choices.nd) dgs_nil))) (dss_cons (ds_asg (dv 4) (k_dgTup (K := K) (n := 3) rfl (dgs_cons (dg_name (i := 5) sc_all_choices.nd) (dgs_cons (dg_name (i := 6) sc_all_choices.nd) (dgs_cons (dg_name (i := 7) sc_all_choices.nd) dgs_nil)))))
      (dss_one (ds_expr (k_app (K := K) (dv 2) (k_fn (K := K) F_change_choices (hr.mono (by decide)) (by rfl) (da_cons (dv 7) (da_cons (dv 5) (da_cons (dv 6) (da_cons (k_ix (K := K) (dv 3) de_int) da_nil))))))))))
      (dss_one (ds_ret (dv 2))))), ?_⟩
  rintro ds S Q ⟨f, L, rfl, hL, hS, q⟩
  walk_at "d"
  intro l hl
  walk_at "d"
  refine for_zipX (xs := L.map En.D) (ys := (stepsF f L).map En.D) (fun _ q => q) (fun _ q => by walk_at "d"; exact ⟨f, L, rfl, hL, q⟩) (fun i ρ' S' => ∃ v3 v4 v5 v6 v7, ρ' = [some (.str (sd f)), some (.tup (L.map En.D)), some (.ref l), v3, v4, v5, v6, v7] ∧ S' = updS S l (.lst (((ccL f L).take i).map ccD))) ⟨_, _, _, _, _, rfl, rfl⟩ ?_ ?_
  · rintro i x y ρ' S' hx hy ⟨v3, v4, v5, v6, v7, rfl, rfl⟩
    obtain ⟨e, he, rfl⟩ := mapD_get hx
    obtain ⟨st, hst, rfl⟩ := mapD_get hy
    have hi := (List.getElem?_eq_some_iff.mp he).1
    have ok := hS st (List.mem_of_getElem? hst)
    unfold OkE at ok
    walk_at "d"
    refine ⟨st.s, st.a, st.b, e.s, rfl, by omega, ?_⟩
    walk_at "d"
    refine ⟨sz_le (by rw [List.length_map, List.length_take]; omega), ?_⟩
    walk_at "d"
    refine ⟨_, _, _, _, _, rfl, ?_⟩
    rw [updS_updS, take_snoc (show (ccL f L)[i]? = some (ccE e st) from zipWith_get he hst), List.map_append]; rfl
  · rintro ρ' S' ⟨v3, v4, v5, v6, v7, rfl, rfl⟩
    have e1 : min (L.map En.D).length ((stepsF f L).map En.D).length = (ccL f L).length := by unfold ccL; rw [List.length_map, List.length_map, List.length_zipWith]
    rw [e1, List.take_length]
    walk_at "d"
    exact Leave.lst hl q
theorem ok_first_wrong (B : Bts mg) (F0 : FunD K mg "first_wrong" s_first_wrong ["first", "sheet"]) (F_all_choices : FnD P w K mg base 2 "all_choices" sp_all_choices) : FnD P w K mg base 3 "first_wrong" sp_first_wrong := by
  refine okF F0 sc_first_wrong (fun ds S Q h => by obtain ⟨_, _, e, _⟩ := h; subst e; rfl) fun f cdv A outer s H E hr => ⟨_, _, (dss_cons (ds_for PassesOwn.never rfl (k_diEnum (K := K) (by rfl) B.enumerate (k_fn (K := K) F_all_choices (hr.mono (by decide)) (by rfl) (da_cons (dv 0) (da_cons (dv 1) da_nil)))) (k_dgTup (K := K) (n := 2) rfl (dgs_cons (dg_name (i := 2) sc_first_wrong.nd) (dgs_cons (dg_name (i := 3) sc_first_wrong.nd) dgs_nil))) (dss_one (ds_if (dt_cmp (k_eq (K := K) (Room.u64 hr)) (dv 3) (de_lst da_nil)) (dss_one (ds_ret (dv 2))) dss_nil)))
      (dss_one (ds_ret de_non))), ?_⟩
  rintro ds S Q ⟨f, L, rfl, hL, hS, q⟩
  walk_at "d"
  refine for_enum (xs := (ccL f L).map ccD) (fun _ q => by walk_at "d"; exact ⟨f, L, rfl, hL, hS, q⟩) (fun i ρ' S' => ∃ v2 v3, ρ' = [some (.str (sd f)), some (.tup (L.map En.D)), v2, v3] ∧ (∀ k < i, ∀ l', (ccL f L)[k]? = some l' → l'.isEmpty = false) ∧ S = S') ⟨_, _, rfl, fun k hk => absurd hk (Nat.not_lt_zero k), rfl⟩ ?_ ?_
  · rintro i x ρ' S' hx ⟨v2, v3, rfl, hb, rfl⟩
    obtain ⟨l, hl, rfl⟩ := ccD_get hx
    rw [show ccD l = .lst (l.map D.int) from rfl]
    walk_at "d"
    refine ⟨⟨ok_ints, rfl⟩, ?_⟩
    rw [eqv_nil]
    walk_at "d"
    refine br_b (fun z => ?_) (fun z => ?_)
    · walk_at "d"
      rw [fw_some hl z hb] at q
      exact Leave.now q
    · walk_at "d"
      refine ⟨_, _, rfl, fun k hk l' hl' => ?_, rfl⟩
      by_cases h : k = i
      · subst h
        rw [hl] at hl'; cases hl'; exact z
      · exact hb k (by omega) l' hl'
  · rintro ρ' S' ⟨v2, v3, rfl, hb, rfl⟩
    rw [List.length_map] at hb
    walk_at "d"
    rw [fw_none hb] at q
    exact Leave.now q
theorem ok_fits (B : Bts mg) (F0 : FunD K mg "fits" s_fits ["first", "sheet"]) (F_first_wrong : FnD P w K mg base 3 "first_wrong" sp_first_wrong) : FnD P w K mg base 4 "fits" sp_fits := by
  refine okF F0 sc_fits (fun ds S Q h => by obtain ⟨_, _, e, _⟩ := h; subst e; rfl) fun f cdv A outer s H E hr => ⟨_, _, (dss_one (ds_ret (de_cmp (do_is) (k_fn (K := K) F_first_wrong (hr.mono (by decide)) (by rfl) (da_cons (dv 0) (da_cons (dv 1) da_nil))) de_non))), ?_⟩
  rintro ds S Q ⟨f, L, rfl, hL, hS, q⟩
  walk_at "d"
  refine ⟨f, L, rfl, hL, hS, ?_⟩
  unfold fitM at q
  cases h : fwM f L with
  | none =>
    rw [h] at q
    walk_at "d"
    exact Leave.now q
  | some i =>
    rw [h] at q
    walk_at "d"
    exact Leave.now q
theorem ok_count_sheet (B : Bts mg) (F0 : FunD K mg "count_sheet" s_count_sheet ["first", "sheet"]) (F_choices : FnD P w K mg base 1 "choices" sp_choices) (F_fits : FnD P w K mg base 4 "fits" sp_fits) (F_steps : FnD P w K mg base 1 "steps" sp_steps) : FnD P w K mg base 5 "count_sheet" sp_count_sheet := by
  refine okF F0 sc_count_sheet (fun ds S Q h => by obtain ⟨_, _, e, _⟩ := h; subst e; rfl) fun f cdv A outer s H E hr => ⟨_, _, (dss_cons (ds_if (dt_not (k_tru (K := K) (k_fn (K := K) F_fits (hr.mono (by decide)) (by rfl) (da_cons (dv 0) (da_cons (dv 1) da_nil))))) (dss_one (ds_ret de_int)) dss_nil)
      (dss_cons (ds_set (i := 2) sc_count_sheet.nd de_int)
      (dss_cons (ds_for PassesOwn.never rfl (k_diZipX (K := K) (by rfl) B.zip (dv 1) (k_fn (K := K) F_steps (hr.mono (by decide)) (by rfl) (da_cons (dv 0) (da_cons (dv 1) da_nil)))) (k_dgTup (K := K) (n := 2) rfl (dgs_cons (dg_name (i := 3) sc_count_sheet.nd) (dgs_cons (dg_name (i := 4) sc_count_sheet.nd) dgs_nil))) (dss_cons (ds_asg (dv 4) (k_dgTup (K := K) (n := 3) rfl (dgs_cons (dg_name (i := 5) sc_count_sheet.nd) (dgs_cons (dg_name (i := 6) sc_count_sheet.nd) (dgs_cons (dg_name (i := 7) sc_count_sheet.nd) dgs_nil)))))
      (dss_one (ds_if (dt_cmp (do_gt) (de_op (k_add (K := K)) (dv 5) (dv 6)) de_int) (dss_one (ds_augMul (i := 2) sc_count_sheet.nd (k_fn (K := K) F_choices (hr.mono (by decide)) (by rfl) (da_cons (de_op do_sub (de_op (k_add (K := K)) (dv 5) (dv 6)) de_int) (da_cons (de_op do_sub (dv 5) (de_callTy dc_int (by rfl) B.int bb_int (da_cons (de_cmp (k_eq (K := K) (Room.u64 hr)) (k_ix (K := K) (dv 3) de_int) de_str) da_nil))) da_nil))))) dss_nil))))
      (dss_one (ds_ret (dv 2)))))), ?_⟩
  rintro ds S Q ⟨f, L, rfl, hS, q⟩
  walk_at "d"
  refine ⟨f, L, rfl, hS.1, okSh_st hS, ?_⟩
  unfold cntM at q
  cases h : fitM f L with
  | false =>
    rw [h] at q
    walk_at "d"
    exact Leave.now q
  | true =>
    rw [h, if_pos rfl, ← prodI_all] at q
    walk_at "d"
    refine for_zipX (xs := L.map En.D) (ys := (stepsF f L).map En.D) (fun _ q => q) (fun _ q => by walk_at "d"; exact ⟨f, L, rfl, hS.1, q⟩) (fun i ρ' S' => ∃ v3 v4 v5 v6 v7, ρ' = [some (.str (sd f)), some (.tup (L.map En.D)), some (.int (prodI f L i)), v3, v4, v5, v6, v7] ∧ S = S') ⟨_, _, _, _, _, rfl, rfl⟩ ?_ ?_
    · rintro i x y ρ' S' hx hy ⟨v3, v4, v5, v6, v7, rfl, rfl⟩
      obtain ⟨e, he, rfl⟩ := mapD_get hx
      obtain ⟨st, hst, rfl⟩ := mapD_get hy
      have hi := (List.getElem?_eq_some_iff.mp he).1
      obtain ⟨p, hp⟩ := befM_get (f := f) (show i ≤ L.length by omega)
      have e0 := stepsF_get he hp
      rw [hst] at e0
      cases e0
      have hs2 := hS.2.2 _ (List.mem_of_getElem? hst)
      have ok := okSh_st hS _ (List.mem_of_getElem? hst)
      have ok2 := hS.2.1 e (List.mem_of_getElem? he)
      have ok3 := bef_ok hS (List.mem_of_getElem? hp)
      have hn := prodI_succ he hp
      unfold oneE at hn
      walk_at "d"
      refine br_dec (fun h0 => ?_) (fun h0 => ?_)
      · rw [if_pos h0] at hn
        walk_at "d"
        have hs3 : (e.sub p).a + (e.sub p).b - 1 ≤ 300 := by unfold En.sub; simp only; omega
        refine ⟨_, _, rfl, by omega, ?_⟩
        rw [dsdA]
        walk_at "d"
        refine ⟨prodI_wide hS hp hs3, ?_⟩
        walk_at "d"
        try dsimp only
        rw [← hn]
        exact ⟨_, _, _, _, _, rfl, rfl⟩
      · rw [if_neg h0, Int.mul_one] at hn
        walk_at "d"
        try dsimp only
        rw [← hn]
        exact ⟨_, _, _, _, _, rfl, rfl⟩
    · rintro ρ' S' ⟨v3, v4, v5, v6, v7, rfl, rfl⟩
      rw [List.length_map, List.length_map, stepsF_len, Nat.min_self]
      walk_at "d"
      exact Leave.now q
theorem ok_change_ranges (B : Bts mg) (F0 : FunD K mg "change_ranges" s_change_ranges ["first", "sheet"]) (F_all_choices : FnD P w K mg base 2 "all_choices" sp_all_choices) (F_fits : FnD P w K mg base 4 "fits" sp_fits) : FnD P w K mg base 5 "change_ranges" sp_change_ranges := by
  refine okF F0 sc_change_ranges (fun ds S Q h => by obtain ⟨_, _, e, _⟩ := h; subst e; rfl) fun f cdv A outer s H E hr => ⟨_, _, (dss_cons (ds_if (dt_not (k_tru (K := K) (k_fn (K := K) F_fits (hr.mono (by decide)) (by rfl) (da_cons (dv 0) (da_cons (dv 1) da_nil))))) (dss_one (ds_ret (de_lst da_nil))) dss_nil)
      (dss_cons (ds_par3 (i := 2) (j := 3) (l := 4) rfl sc_change_ranges.nd (da_cons (de_lstO da_nil) (da_cons de_int (da_cons de_int da_nil))))
      (dss_cons (ds_for PassesOwn.never rfl (k_diList (K := K) (k_fn (K := K) F_all_choices (hr.mono (by decide)) (by rfl) (da_cons (dv 0) (da_cons (dv 1) da_nil)))) (dg_name (i := 5) sc_change_ranges.nd) (dss_cons (ds_set (i := 3) sc_change_ranges.nd (de_op (k_add (K := K)) (dv 3) (k_ix (K := K) (dv 5) de_int)))
      (dss_cons (ds_set (i := 4) sc_change_ranges.nd (de_op (k_add (K := K)) (dv 4) (k_ix (K := K) (dv 5) (de_neg de_int))))
      (dss_one (ds_expr (k_app (K := K) (dv 2) (de_tup (da_cons (dv 3) (da_cons (dv 4) da_nil)))))))))
      (dss_one (ds_ret (dv 2)))))), ?_⟩
  rintro ds S Q ⟨f, L, rfl, hL, q⟩
  have hst := okSh_st hL
  walk_at "d"
  refine ⟨f, L, rfl, hL.1, hst, ?_⟩
  unfold chR at q
  cases hf : fitM f L with
  | false =>
    rw [hf, if_neg (by decide)] at q
    walk_at "d"
    exact Leave.now q
  | true =>
    rw [hf, if_pos rfl] at q
    walk_at "d"
    intro l hl
    walk_at "d"
    refine for_lst (L := (ccL f L).map ccD) (fun _ q => by walk_at "d"; exact ⟨f, L, rfl, hL.1, hst, q⟩) (fun i ρ' S' => ∃ v5, ρ' = [some (.str (sd f)), some (.tup (L.map En.D)), some (.ref l), some (.int (lowN (ccL f L) i)), some (.int (highN (ccL f L) i)), v5] ∧ S' = updS S l (.lst ((rngP (ccL f L) i).map DL.pairD))) ⟨_, rfl, rfl⟩ ?_ ?_
    · rintro i d ρ' S' hd ⟨v5, rfl, rfl⟩
      obtain ⟨c, hc, rfl⟩ := ccD_get hd
      have hi := (List.getElem?_eq_some_iff.mp hc).1
      rw [ccL_len] at hi
      have hL1 := hL.1
      have hne := fit_ne hf (List.mem_of_getElem? hc)
      have e := lowN_succ hc
      rw [show ccD c = .lst (c.map D.int) from rfl]
      walk_at "d"
      refine TheItem.of (hd_at hne) ?_
      walk_at "d"
      refine TheItem.of (ls_at hne) ?_
      walk_at "d"
      refine ⟨sz_le (by rw [List.length_map, rngP_len]; omega), ?_⟩
      walk_at "d"
      refine ⟨_, by rw [← e.1, ← e.2]; rfl, ?_⟩
      rw [updS_updS, rngP_succ, List.map_append, ← e.1, ← e.2]; rfl
    · rintro ρ' S' ⟨v5, rfl, rfl⟩
      rw [List.length_map, ccL_len]
      walk_at "d"
      exact Leave.lst hl q
theorem ok_rotations_at (B : Bts mg) (F0 : FunD K mg "rotations_at" s_rotations_at ["sizes", "first", "sheet", "index"]) (F_change_ranges : FnD P w K mg base 5 "change_ranges" sp_change_ranges) (F_fits : FnD P w K mg base 4 "fits" sp_fits) (F_rotations_after : FnD P w K mg base 1 "rotations_after" sp_rotations_after) : FnD P w K mg base 6 "rotations_at" sp_rotations_at := by
  refine okF F0 sc_rotations_at (fun ds S Q h => by obtain ⟨_, _, _, _, _, e, _⟩ := h; subst e; rfl) fun f cdv A outer s H E hr => ⟨_, _, (dss_cons (ds_if (dt_not (k_tru (K := K) (k_fn (K := K) F_fits (hr.mono (by decide)) (by rfl) (da_cons (dv 1) (da_cons (dv 2) da_nil))))) (dss_one (ds_ret (de_lst da_nil))) dss_nil)
      (dss_cons (ds_asg (k_ix (K := K) (k_fn (K := K) F_change_ranges (hr.mono (by decide)) (by rfl) (da_cons (dv 1) (da_cons (dv 2) da_nil))) (dv 3)) (k_dgTup (K := K) (n := 2) rfl (dgs_cons (dg_name (i := 4) sc_rotations_at.nd) (dgs_cons (dg_name (i := 5) sc_rotations_at.nd) dgs_nil))))
      (dss_cons (ds_set (i := 6) sc_rotations_at.nd de_newT)
      (dss_cons (ds_for PassesOwn.never rfl (di_rng3 (by rfl) B.range (da_cons (dv 4) (da_cons (de_op (k_add (K := K)) (dv 5) de_int) (da_cons de_int da_nil)))) (dg_name (i := 7) sc_rotations_at.nd) (dss_cons (ds_asg (k_fn (K := K) F_rotations_after (hr.mono (by decide)) (by rfl) (da_cons (dv 1) (da_cons (dv 7) da_nil))) (k_dgTup (K := K) (n := 2) rfl (dgs_cons (dg_name (i := 8) sc_rotations_at.nd) (dgs_cons (dg_name (i := 9) sc_rotations_at.nd) dgs_nil))))
      (dss_one (ds_dput (Room.u1 hr) de_bl (dv 6) (de_tup (da_cons (de_op do_mod (dv 8) (k_ix (K := K) (dv 0) de_int)) (da_cons (de_op do_mod (dv 9) (k_ix (K := K) (dv 0) de_int)) da_nil)))))))
      (dss_one (ds_ret (de_sortDT rfl (by rfl) B.sorted (dv 6)))))))), ?_⟩
  rintro ds S Q ⟨f, p, p2, L, k, rfl, hp, hL, hk, q⟩
  have hst := okSh_st hL
  walk_at "d"
  refine ⟨f, L, rfl, hL.1, hst, ?_⟩
  cases hf : fitM f L with
  | false =>
    walk_at "d"
    refine Leave.now ?_
    exact q [] (by decide) List.Pairwise.nil fun x => ⟨fun h => by (cases h), fun h => by rw [hf] at h; cases h.1⟩
  | true =>
    have hb := low_bd hL hf (k + 1) hk
    have hL1 := hL.1
    have hrc := RgC.two (i := lowN (ccL f L) (k + 1)) (j := highN (ccL f L) (k + 1) + 1) (by omega)
    walk_at "d"
    refine ⟨f, L, rfl, hL, ?_⟩
    unfold chR
    rw [hf, if_pos rfl]
    walk_at "d"
    refine TheItem.of (at_map (atI_nat (show (rngP (ccL f L) L.length)[k]? = some (lowN (ccL f L) (k + 1), highN (ccL f L) (k + 1)) by unfold rngP; rw [List.getElem?_map, List.getElem?_range hk]; rfl))) ?_
    walk_at "d"
    intro d hd
    walk_at "d"
    refine ⟨?_⟩
    walk_at "d"
    refine ⟨_, hrc, fun i ρ' S' => ∃ v7 v8 v9, ρ' = [some (.tup [.int p, .int p2]), some (.str (sd f)), some (.tup (L.map En.D)), some (.int k), some (.int (lowN (ccL f L) (k + 1))), some (.int (highN (ccL f L) (k + 1))), some (.ref d), v7, v8, v9] ∧ S' = updS S d (.dT (kvT (ksN f p p2 ((evs f L k).take i)))), ⟨_, _, _, rfl, rfl⟩, ?_, ?_⟩
    · rintro i x ρ' S' hx ⟨v7, v8, v9, rfl, rfl⟩
      obtain ⟨n, hn, rfl⟩ : ∃ n, (evs f L k)[i]? = some n ∧ x = .int n := by
        rw [List.getElem?_map] at hx
        unfold evs
        cases e : (irgC (lowN (ccL f L) (k + 1)) 2 ((highN (ccL f L) (k + 1) + 1 - lowN (ccL f L) (k + 1) + 1) / 2).toNat)[i]? with
        | none => rw [e] at hx; cases hx
        | some n => rw [e] at hx; cases hx; exact ⟨n, rfl, rfl⟩
      have hn2 := evs_bd hb hn
      have hlen := ksN_len f p p2 ((evs f L k).take i)
      have hlen2 : ((evs f L k).take i).length ≤ 1000000 := by rw [List.length_take]; have := hn2.2.2; omega
      walk_at "d"
      refine ⟨f, n, rfl, by omega, ?_⟩
      walk_at "d"
      refine ⟨show (0 : Int) < p by omega, ?_⟩
      walk_at "d"
      refine ⟨show (0 : Int) < p2 by omega, ?_⟩
      walk_at "d"
      refine PutP.t (ks := keyP (rotP f p p2 n)) updS_same rfl putK_T (sz_le (by rw [kvT_len]; omega)) ?_
      rw [updS_updS, ← ksN_snoc, ← take_snoc hn]
      walk_at "d"
      exact ⟨_, _, _, rfl, rfl⟩
    · rintro ρ' S' ⟨v7, v8, v9, rfl, rfl⟩
      have hfull : (evs f L k).take ((irgC (lowN (ccL f L) (k + 1)) 2 ((highN (ccL f L) (k + 1) + 1 - lowN (ccL f L) (k + 1) + 1) / 2).toNat).map D.int).length = evs f L k := by
        rw [List.length_map]; exact List.take_length
      rw [hfull]
      walk_at "d"
      refine DctT.of updS_same ⟨_, kvT_keys _, fun ps hp hs => ?_⟩
      refine Leave.sub (sub_new hd) (q ps (by rw [hp.length_eq]; have := ksN_len f p p2 (evs f L k); have : (evs f L k).length ≤ 1000000 := (by unfold evs; rw [irgC_len]; omega); omega) (ltL_of hs (hp.nodup_iff.mpr (ksN_nodup f p p2 _))) fun x => ?_)
      rw [hp.mem_iff, ksN_mem]
      exact ⟨fun h => ⟨hf, h⟩, fun h => h.2⟩
theorem ok__law_draw (B : Bts mg) (F0 : FunD K mg "_law_draw" s__law_draw ["tape", "many"]) : FnD P w K mg base 1 "_law_draw" sp_l_draw := by
  refine okF F0 sc__law_draw (fun ds S Q h => by obtain ⟨_, _, _, e, _⟩ := h; subst e; rfl) fun f cdv A outer s H E hr => ⟨_, _, (dss_cons (ds_set (i := 2) sc__law_draw.nd de_int)
      (dss_cons (ds_if (dt_cmp (do_lt) (k_ix (K := K) (dv 0) de_int) (dv 1)) (dss_cons (ds_set (i := 3) sc__law_draw.nd de_int)
      (dss_cons (ds_if (dt_cmp (do_gt) (de_callB (k_len (K := K)) (by rfl) B.len bb_len (da_cons (k_ix (K := K) (dv 0) de_int) da_nil)) de_int) (dss_one (ds_set (i := 3) sc__law_draw.nd (k_ix (K := K) (k_ix (K := K) (dv 0) de_int) (de_op do_mod (k_ix (K := K) (dv 0) de_int) (de_callB (k_len (K := K)) (by rfl) B.len bb_len (da_cons (k_ix (K := K) (dv 0) de_int) da_nil)))))) dss_nil)
      (dss_cons (ds_if (DW.dt (dw_or (dt_cmp (do_ge) (k_ix (K := K) (dv 0) de_int) (de_callB (k_len (K := K)) (by rfl) B.len bb_len (da_cons (k_ix (K := K) (dv 0) de_int) da_nil))) (dw_or1 (dt_cmp (do_lt) (dv 3) (de_op do_pow de_int de_int))))) (dss_cons (ds_set (i := 3) sc__law_draw.nd (de_op do_mod (de_op (k_add (K := K)) (dv 3) (de_op do_mul de_int (k_ix (K := K) (dv 0) de_int))) (dv 2)))
      (dss_cons (ds_set (i := 3) sc__law_draw.nd (de_op do_mod (de_op (k_add (K := K)) (de_op (k_add (K := K)) (de_op do_mul (dv 3) (dv 3)) (de_op do_mul de_int (dv 3))) de_int) (dv 2)))
      (dss_one (ds_set (i := 3) sc__law_draw.nd (de_op do_mod (de_op (k_add (K := K)) (de_op do_mul (dv 3) (dv 3)) de_int) (dv 2)))))) dss_nil)
      (dss_cons (ds_setL (de_op (k_add (K := K)) (k_ix (K := K) (dv 0) de_int) de_int) (dv 0) de_int)
      (dss_one (ds_setL (dv 3) (dv 0) de_int)))))) dss_nil)
      (dss_cons (ds_set (i := 4) sc__law_draw.nd (de_op do_mod (k_ix (K := K) (dv 0) de_int) (dv 1)))
      (dss_cons (ds_setL (de_op do_fdiv (k_ix (K := K) (dv 0) de_int) (dv 1)) (dv 0) de_int)
      (dss_one (ds_ret (dv 4))))))), ?_⟩
  rintro ds S Q ⟨T, m, tp, rfl, ⟨hm0, hm1⟩, hT, ⟨l, i, c, rfl, hi, hc⟩, q⟩
  have hm := log_small ⟨hm0, hm1⟩
  obtain ⟨S, rfl⟩ := updS_ex hT
  have pr : (0 : Int) < 2305843009213693951 := by decide
  have p18 : (0 : Int) < 10 ^ Int.toNat 18 := by decide
  walk_at "d"
  refine br_dec (fun _ => ?_) (fun _ => ?_)
  · walk_at "d"
    refine br_dec (fun h0 => ?_) (fun h0 => ?_)
    · walk_at "d"
      refine ⟨h0, ?_⟩
      walk_at "d"
      obtain ⟨x, hx⟩ := at_int (Int.emod_nonneg i (by omega)) (Int.emod_lt_of_pos i h0)
      refine TheItem.of hx ?_
      walk_at "d"
      refine br_dec (fun h1 => ?_) (fun h1 => ?_)
      · walk_at "d"
        refine ⟨.inl (.inl ⟨by decide, by decide⟩), ?_⟩
        walk_at "d"
        refine ⟨pr, ?_⟩
        walk_at "d"
        refine ⟨.inl (.inl ⟨by omega, by omega⟩), ?_⟩
        walk_at "d"
        refine ⟨.inl (.inl ⟨by decide, by decide⟩), ?_⟩
        walk_at "d"
        refine ⟨pr, ?_⟩
        walk_at "d"
        refine ⟨.inl (.inl ⟨by omega, by omega⟩), ?_⟩
        walk_at "d"
        refine ⟨pr, ?_⟩
        (walk_at "d"; refine ⟨hm0, ?_⟩; walk_at "d"; refine ⟨hm, ?_⟩; walk_at "d"; refine Leave.now ?_; simp only [updS_updS] at q ⊢; exact q _ _ (Int.emod_nonneg _ (by omega)) (Int.emod_lt_of_pos _ hm0) ⟨l, _, _, rfl, by omega, Int.ediv_nonneg (by omega) (by omega)⟩)
      · walk_at "d"
        refine ⟨⟨by decide, by decide, by decide⟩, ?_⟩
        walk_at "d"
        refine br_dec (fun h2 => ?_) (fun h2 => ?_)
        · walk_at "d"
          refine ⟨.inl (.inl ⟨by decide, by decide⟩), ?_⟩
          walk_at "d"
          refine ⟨pr, ?_⟩
          walk_at "d"
          refine ⟨.inl (.inl ⟨by omega, by omega⟩), ?_⟩
          walk_at "d"
          refine ⟨.inl (.inl ⟨by decide, by decide⟩), ?_⟩
          walk_at "d"
          refine ⟨pr, ?_⟩
          walk_at "d"
          refine ⟨.inl (.inl ⟨by omega, by omega⟩), ?_⟩
          walk_at "d"
          refine ⟨pr, ?_⟩
          (walk_at "d"; refine ⟨hm0, ?_⟩; walk_at "d"; refine ⟨hm, ?_⟩; walk_at "d"; refine Leave.now ?_; simp only [updS_updS] at q ⊢; exact q _ _ (Int.emod_nonneg _ (by omega)) (Int.emod_lt_of_pos _ hm0) ⟨l, _, _, rfl, by omega, Int.ediv_nonneg (by omega) (by omega)⟩)
        · (walk_at "d"; refine ⟨hm0, ?_⟩; walk_at "d"; refine ⟨hm, ?_⟩; walk_at "d"; refine Leave.now ?_; simp only [updS_updS] at q ⊢; exact q _ _ (Int.emod_nonneg _ (by omega)) (Int.emod_lt_of_pos _ hm0) ⟨l, _, _, rfl, by omega, Int.ediv_nonneg (by omega) (by omega)⟩)
    · walk_at "d"
      refine br_dec (fun h1 => ?_) (fun h1 => ?_)
      · walk_at "d"
        refine ⟨.inl (.inl ⟨by decide, by decide⟩), ?_⟩
        walk_at "d"
        refine ⟨pr, ?_⟩
        walk_at "d"
        refine ⟨.inl (.inl ⟨by omega, by omega⟩), ?_⟩
        walk_at "d"
        refine ⟨.inl (.inl ⟨by decide, by decide⟩), ?_⟩
        walk_at "d"
        refine ⟨pr, ?_⟩
        walk_at "d"
        refine ⟨.inl (.inl ⟨by omega, by omega⟩), ?_⟩
        walk_at "d"
        refine ⟨pr, ?_⟩
        (walk_at "d"; refine ⟨hm0, ?_⟩; walk_at "d"; refine ⟨hm, ?_⟩; walk_at "d"; refine Leave.now ?_; simp only [updS_updS] at q ⊢; exact q _ _ (Int.emod_nonneg _ (by omega)) (Int.emod_lt_of_pos _ hm0) ⟨l, _, _, rfl, by omega, Int.ediv_nonneg (by omega) (by omega)⟩)
      · walk_at "d"
        refine ⟨⟨by decide, by decide, by decide⟩, ?_⟩
        walk_at "d"
        refine br_to (decide_eq_true p18) ?_
        walk_at "d"
        refine ⟨.inl (.inl ⟨by decide, by decide⟩), ?_⟩
        walk_at "d"
        refine ⟨pr, ?_⟩
        walk_at "d"
        refine ⟨.inl (.inl ⟨by omega, by omega⟩), ?_⟩
        walk_at "d"
        refine ⟨.inl (.inl ⟨by decide, by decide⟩), ?_⟩
        walk_at "d"
        refine ⟨pr, ?_⟩
        walk_at "d"
        refine ⟨.inl (.inl ⟨by omega, by omega⟩), ?_⟩
        walk_at "d"
        refine ⟨pr, ?_⟩
        (walk_at "d"; refine ⟨hm0, ?_⟩; walk_at "d"; refine ⟨hm, ?_⟩; walk_at "d"; refine Leave.now ?_; simp only [updS_updS] at q ⊢; exact q _ _ (Int.emod_nonneg _ (by omega)) (Int.emod_lt_of_pos _ hm0) ⟨l, _, _, rfl, by omega, Int.ediv_nonneg (by omega) (by omega)⟩)
  · (walk_at "d"; refine ⟨hm0, ?_⟩; walk_at "d"; refine ⟨hm, ?_⟩; walk_at "d"; refine Leave.now ?_; simp only [updS_updS] at q ⊢; exact q _ _ (Int.emod_nonneg _ (by omega)) (Int.emod_lt_of_pos _ hm0) ⟨l, _, _, rfl, hi, Int.ediv_nonneg hc (by omega)⟩)
theorem okS__law_like {k n : Nat} (B : Bts mg) (F0 : FunD K mg "_law_like" s__law_like ["one", "two"]) (F__law_like : FnD P w K mg base k "_law_like" (sp_like n)) : FnD P w K mg base (k + 1) "_law_like" (sp_like (n + 1)) := by
  refine okF F0 sc__law_like (fun ds S Q h => by obtain ⟨d, e, _⟩ := h; subst e; rfl) fun f cdv A outer s H E hr => ⟨_, _, (dss_cons (ds_if (k_tru (K := K) (k_isi2 (K := K) .lst .tup (by rfl) B.isinstance (dv 0) (by rfl) B.list bt_lst (by rfl) B.tuple bt_tup)) (dss_cons (ds_if (DW.dt (dw_or (dt_cmp (k_ne (K := K) (Room.u64 hr)) (k_isi (K := K) .lst (by rfl) B.isinstance (dv 0) (by rfl) B.list bt_lst) (k_isi (K := K) .lst (by rfl) B.isinstance (dv 1) (by rfl) B.list bt_lst)) (dw_or1 (dt_cmp (k_ne (K := K) (Room.u64 hr)) (k_isi (K := K) .tup (by rfl) B.isinstance (dv 0) (by rfl) B.tuple bt_tup) (k_isi (K := K) .tup (by rfl) B.isinstance (dv 1) (by rfl) B.tuple bt_tup))))) (dss_one (ds_ret de_bl)) dss_nil)
      (dss_cons (ds_if (dt_cmp (k_ne (K := K) (Room.u64 hr)) (de_callB (k_len (K := K)) (by rfl) B.len bb_len (da_cons (dv 0) da_nil)) (de_callB (k_len (K := K)) (by rfl) B.len bb_len (da_cons (dv 1) da_nil))) (dss_one (ds_ret de_bl)) dss_nil)
      (dss_one (ds_ret (de_cmp (k_eq (K := K) (Room.u64 hr)) (de_lc (own := [("k", 2)]) rfl sc__law_like.nd (di_rng1 (by rfl) B.range (de_callB (k_len (K := K)) (by rfl) B.len bb_len (da_cons (dv 0) da_nil))) (blkOk_by (own := [("k", 2)]) (N := ["one", "two", "k"]) (sc := (defScope s__law_like)) (by decide +kernel)) (fun _ _ _ _ _ => (dg_name (i := 2) sc__law_like.nd)) (fun _ _ _ _ _ => (dts_one (dt_not (k_tru (K := K) (k_fn (K := K) F__law_like hr (by rfl) (da_cons (k_ix (K := K) (dv 0) (dv 2)) (da_cons (k_ix (K := K) (dv 1) (dv 2)) da_nil))))))) (fun _ _ _ _ _ => (dv 2))) (de_lst da_nil)))))) dss_nil)
      (dss_cons (ds_if (k_tru (K := K) (k_isi2 (K := K) .lst .tup (by rfl) B.isinstance (dv 1) (by rfl) B.list bt_lst (by rfl) B.tuple bt_tup)) (dss_one (ds_ret de_bl)) dss_nil)
      (dss_one (ds_ret (de_and (de_cmp (k_eq (K := K) (Room.u64 hr)) (k_isi (K := K) .bool (by rfl) B.isinstance (dv 0) (by rfl) B.bool bt_bool) (k_isi (K := K) .bool (by rfl) B.isinstance (dv 1) (by rfl) B.bool bt_bool)) (de_one (de_cmp (k_eq (K := K) (Room.u64 hr)) (dv 0) (dv 1)))))))), ?_⟩
  rintro ds S Q ⟨d, rfl, hd, q⟩
  cases d with
  | non => walk_at "d"; exact ⟨⟨rfl, rfl⟩, Leave.now q⟩
  | bl b => walk_at "d"; refine Leave.now ?_; rw [decide_eq_true (Eq.refl b)]; exact q
  | int i => walk_at "d"; refine Leave.now ?_; rw [decide_eq_true (Eq.refl i)]; exact q
  | str x => walk_at "d"; refine Leave.now ?_; rw [decide_eq_true (Eq.refl x)]; exact q
  | tup xs =>
    obtain ⟨hl, hx⟩ := likeOk_tup hd
    walk_at "d"
    refine lc_rng1 (n := xs.length) (fun _ q => by walk_at "d"; exact q) (by omega) (fun _ => false) (fun i => .int i) (fun i h1 h2 R R0 r r0 => ?_) ?_
    · walk_at "d"
      obtain ⟨x, e, hm⟩ := at_mem (l := xs) h1 h2
      refine TheItem.of e ?_
      walk_at "d"
      refine TheItem.of e ?_
      walk_at "d"
      refine ⟨x, rfl, hx x hm, ?_⟩
      walk_at "d"
      exact r0 rfl
    · rw [filt_none]
      walk_at "d"
      exact ⟨⟨rfl, rfl⟩, Leave.now q⟩
  | lst xs =>
    obtain ⟨hl, hx⟩ := likeOk_lst hd
    walk_at "d"
    refine lc_rng1 (n := xs.length) (fun _ q => by walk_at "d"; exact q) (by omega) (fun _ => false) (fun i => .int i) (fun i h1 h2 R R0 r r0 => ?_) ?_
    · walk_at "d"
      obtain ⟨x, e, hm⟩ := at_mem (l := xs) h1 h2
      refine TheItem.of e ?_
      walk_at "d"
      refine TheItem.of e ?_
      walk_at "d"
      refine ⟨x, rfl, hx x hm, ?_⟩
      walk_at "d"
      exact r0 rfl
    · rw [filt_none]
      walk_at "d"
      exact ⟨⟨rfl, rfl⟩, Leave.now q⟩
  | fz xs => cases hd
  | ref a => cases hd
theorem ok__law_like (B : Bts mg) (F0 : FunD K mg "_law_like" s__law_like ["one", "two"]) : FnD P w K mg base 5 "_law_like" sp_l_like :=
  okS__law_like B F0 (okS__law_like B F0 (okS__law_like B F0 (okS__law_like B F0 ((FnD.never F0 sc__law_like).imp fun _ _ _ h => by obtain ⟨d, _, h, _⟩ := h; cases h))))
theorem ok__law_side (B : Bts mg) (F0 : FunD K mg "_law_side" s__law_side ["tape"]) (F__law_draw : FnD P w K mg base 1 "_law_draw" sp_l_draw) : FnD P w K mg base 2 "_law_side" sp_l_side := by
  refine okF F0 sc__law_side (fun ds S Q h => by obtain ⟨_, _, e, _⟩ := h; subst e; rfl) fun f cdv A outer s H E hr => ⟨_, _, (dss_one (ds_ret (k_ix (K := K) de_str (k_fn (K := K) F__law_draw (hr.mono (by decide)) (by rfl) (da_cons (dv 0) (da_cons de_int da_nil)))))), ?_⟩
  rintro ds S Q ⟨T, tp, rfl, hT, tO, q⟩
  walk_at "d"
  refine ⟨T, 2, tp, rfl, by omega, hT, tO, fun n tp' h0 h1 tO' => ?_⟩
  walk_at "d"
  have hn : n = 0 ∨ n = 1 := by omega
  rcases hn with rfl | rfl
  · exact TheItem.of at0 (Leave.now (q true tp' tO'))
  · exact TheItem.of at1 (Leave.now (q false tp' tO'))
theorem ok__law_far (B : Bts mg) (F0 : FunD K mg "_law_far" s__law_far ["side"]) : FnD P w K mg base 1 "_law_far" sp_l_far := by
  refine okF F0 sc__law_far (fun ds S Q h => by obtain ⟨_, e, _⟩ := h; subst e; rfl) fun f cdv A outer s H E hr => ⟨_, _, (dss_one (ds_ret (de_if (dt_cmp (k_eq (K := K) (Room.u64 hr)) (dv 0) de_str) de_str de_str))), ?_⟩
  rintro ds S Q ⟨s, rfl, q⟩
  cases s <;> (walk_at "d"; exact Leave.now q)
theorem ok__law_sizes (B : Bts mg) (F0 : FunD K mg "_law_sizes" s__law_sizes ["tape"]) (F__law_draw : FnD P w K mg base 1 "_law_draw" sp_l_draw) : FnD P w K mg base 2 "_law_sizes" sp_l_sizes := by
  refine okF F0 sc__law_sizes (fun ds S Q h => by obtain ⟨_, _, e, _⟩ := h; subst e; rfl) fun f cdv A outer s H E hr => ⟨_, _, (dss_cons (ds_set (i := 1) sc__law_sizes.nd (k_ix (K := K) (de_lst (da_cons de_int (da_cons (de_op (k_add (K := K)) de_int (k_fn (K := K) F__law_draw (hr.mono (by decide)) (by rfl) (da_cons (dv 0) (da_cons de_int da_nil)))) da_nil))) (k_fn (K := K) F__law_draw (hr.mono (by decide)) (by rfl) (da_cons (dv 0) (da_cons de_int da_nil)))))
      (dss_one (ds_ret (de_tup (da_cons (dv 1) (da_cons (k_ix (K := K) (de_lst (da_cons (dv 1) (da_cons de_int (da_cons (de_op (k_add (K := K)) de_int (k_fn (K := K) F__law_draw (hr.mono (by decide)) (by rfl) (da_cons (dv 0) (da_cons de_int da_nil)))) da_nil)))) (k_fn (K := K) F__law_draw (hr.mono (by decide)) (by rfl) (da_cons (dv 0) (da_cons de_int da_nil)))) da_nil)))))), ?_⟩
  rintro ds S Q ⟨T, tp, rfl, hT, tO, q⟩
  obtain ⟨S, rfl⟩ := updS_ex hT
  walk_at "d"
  refine ⟨T, 12, _, rfl, by decide, updS_same, tO, fun x tp x0 x1 tO => ?_⟩
  rw [updS_updS]
  walk_at "d"
  refine ⟨T, 2, _, rfl, by decide, updS_same, tO, fun u tp u0 u1 tO => ?_⟩
  rw [updS_updS]
  walk_at "d"
  obtain ⟨one, hone, o1⟩ := sz2_at ⟨x0, x1⟩ u0 u1
  refine TheItem.of hone ?_
  walk_at "d"
  refine ⟨T, 12, _, rfl, by decide, updS_same, tO, fun y tp y0 y1 tO => ?_⟩
  rw [updS_updS]
  walk_at "d"
  refine ⟨T, 3, _, rfl, by decide, updS_same, tO, fun v tp v0 v1 tO => ?_⟩
  rw [updS_updS]
  walk_at "d"
  obtain ⟨two, htwo, o2⟩ := sz3_at o1 ⟨y0, y1⟩ v0 v1
  refine TheItem.of htwo ?_
  walk_at "d"
  refine Leave.now ?_
  have := q one two _ ⟨o1.1, o1.2, o2.1, o2.2⟩ tO
  rw [updS_updS] at this
  exact this
theorem ok__law_now (B : Bts mg) (F0 : FunD K mg "_law_now" s__law_now ["first", "text"]) : FnD P w K mg base 1 "_law_now" sp_l_now := by
  refine okF F0 sc__law_now (fun ds S Q h => by obtain ⟨_, _, e, _⟩ := h; subst e; rfl) fun f cdv A outer s H E hr => ⟨_, _, (dss_cons (ds_par3 (i := 2) (j := 3) (l := 4) rfl sc__law_now.nd (da_cons (de_disp (dp_cons de_str de_int (dp_cons de_str de_int dp_nil))) (da_cons (de_disp (dp_cons de_str de_int (dp_cons de_str de_int dp_nil))) (da_cons (dv 0) da_nil))))
      (dss_cons (ds_for PassesOwn.never rfl (di_str (dv 1)) (dg_name (i := 5) sc__law_now.nd) (dss_cons (ds_dput (Room.u1 hr) (de_op (k_add (K := K)) (de_dget (Room.u1 hr) (dv 2) (dv 5)) de_int) (dv 2) (dv 5))
      (dss_cons (ds_if (dt_cmp (k_ne (K := K) (Room.u64 hr)) (dv 5) (dv 4)) (dss_one (ds_dput (Room.u1 hr) (de_op (k_add (K := K)) (de_dget (Room.u1 hr) (dv 3) (dv 5)) de_int) (dv 3) (dv 5))) dss_nil)
      (dss_one (ds_set (i := 4) sc__law_now.nd (dv 5))))))
      (dss_one (ds_ret (de_tup (da_cons (de_dget (Room.u1 hr) (dv 2) de_str) (da_cons (de_dget (Room.u1 hr) (dv 2) de_str) (da_cons (dv 4) (da_cons (de_dget (Room.u1 hr) (dv 3) de_str) (da_cons (de_dget (Room.u1 hr) (dv 3) de_str) da_nil)))))))))), ?_⟩
  rintro ds S Q ⟨f, w, rfl, q⟩
  walk_at "d"
  intro p hp
  walk_at "d"
  refine ⟨updS_same, ⟨⟨pD 0 0, rfl, by decide, ?_⟩⟩⟩
  rw [updS_updS, merge_pD]
  walk_at "d"
  intro p2 hp2
  walk_at "d"
  refine ⟨updS_same, ⟨⟨pD 0 0, rfl, by decide, ?_⟩⟩⟩
  rw [updS_updS, merge_pD]
  have hne := none_ne hp2
  walk_at "d"
  refine for_tx (w := w) (fun _ q => q) (fun i ρ' S' => ∃ v, ρ' = [some (.str (sd f)), some (.str (tx w)), some (.ref p), some (.ref p2), some (.str (sd (stM f (w.take i)).s)), v] ∧ S' = updS (updS S p (.dK (pD (stM f (w.take i)).a (stM f (w.take i)).b))) p2 (.dK (pD (stM f (w.take i)).x (stM f (w.take i)).y))) ⟨_, rfl, rfl⟩ ?_ ?_
  · rintro i b ρ' S' hi ⟨v, rfl, rfl⟩
    rw [stM_take hi]
    generalize stM f (w.take i) = n
    obtain ⟨na, nb, ns, nx, ny⟩ := n
    cases b <;> cases ns
    · walk_at "d"
      refine LookP.s (by rw [updS_ne hne, updS_same]) (val_B _ _) ?_
      refine TheItem.of rfl ?_
      walk_at "d"
      refine PutP.s (by rw [updS_ne hne, updS_same]) (put_B _ _ _) (sz_lit rfl) ?_
      rw [updS_put1 hne]
      walk_at "d"
      refine ⟨_, rfl, ?_⟩
      simp [S5.next]
    · walk_at "d"
      refine LookP.s (by rw [updS_ne hne, updS_same]) (val_B _ _) ?_
      refine TheItem.of rfl ?_
      walk_at "d"
      refine PutP.s (by rw [updS_ne hne, updS_same]) (put_B _ _ _) (sz_lit rfl) ?_
      rw [updS_put1 hne]
      walk_at "d"
      refine LookP.s updS_same (val_B _ _) ?_
      refine TheItem.of rfl ?_
      walk_at "d"
      refine PutP.s updS_same (put_B _ _ _) (sz_lit rfl) ?_
      rw [updS_updS]
      walk_at "d"
      refine ⟨_, rfl, ?_⟩
      simp [S5.next]
    · walk_at "d"
      refine LookP.s (by rw [updS_ne hne, updS_same]) (val_A _ _) ?_
      refine TheItem.of rfl ?_
      walk_at "d"
      refine PutP.s (by rw [updS_ne hne, updS_same]) (put_A _ _ _) (sz_lit rfl) ?_
      rw [updS_put1 hne]
      walk_at "d"
      refine LookP.s updS_same (val_A _ _) ?_
      refine TheItem.of rfl ?_
      walk_at "d"
      refine PutP.s updS_same (put_A _ _ _) (sz_lit rfl) ?_
      rw [updS_updS]
      walk_at "d"
      refine ⟨_, rfl, ?_⟩
      simp [S5.next]
    · walk_at "d"
      refine LookP.s (by rw [updS_ne hne, updS_same]) (val_A _ _) ?_
      refine TheItem.of rfl ?_
      walk_at "d"
      refine PutP.s (by rw [updS_ne hne, updS_same]) (put_A _ _ _) (sz_lit rfl) ?_
      rw [updS_put1 hne]
      walk_at "d"
      refine ⟨_, rfl, ?_⟩
      simp [S5.next]
  · rintro ρ' S' ⟨v, rfl, rfl⟩
    rw [List.take_length]
    walk_at "d"
    refine LookP.s (by rw [updS_ne hne, updS_same]) (val_A _ _) ?_
    refine TheItem.of rfl ?_
    walk_at "d"
    refine LookP.s (by rw [updS_ne hne, updS_same]) (val_B _ _) ?_
    refine TheItem.of rfl ?_
    walk_at "d"
    refine LookP.s updS_same (val_A _ _) ?_
    refine TheItem.of rfl ?_
    walk_at "d"
    refine LookP.s updS_same (val_B _ _) ?_
    refine TheItem.of rfl ?_
    walk_at "d"
    exact Leave.sub (Sub.trans (sub_new hp) (sub_new (by rw [updS_ne (fun z => hne z.symm)]; exact none_old hp2))) q
theorem ok__law_all (B : Bts mg) (F0 : FunD K mg "_law_all" s__law_all ["size"]) : FnD P w K mg base 1 "_law_all" sp_l_all := by
  refine okF F0 sc__law_all (fun ds S Q h => by obtain ⟨_, e, _⟩ := h; subst e; rfl) fun f cdv A outer s H E hr => ⟨_, _, (dss_cons (ds_set (i := 1) sc__law_all.nd (de_lst (da_cons de_str da_nil)))
      (dss_cons (ds_for PassesOwn.never rfl (di_rng1 (by rfl) B.range (dv 0)) (dg_name (i := 2) sc__law_all.nd) (dss_cons (ds_set (i := 3) sc__law_all.nd (de_lst da_nil))
      (dss_cons (ds_for PassesOwn.never rfl (k_diList (K := K) (dv 1)) (dg_name (i := 4) sc__law_all.nd) (dss_one (ds_set (i := 3) sc__law_all.nd (de_op (k_add (K := K)) (dv 3) (de_lst (da_cons (de_op (k_add (K := K)) (dv 4) de_str) (da_cons (de_op (k_add (K := K)) (dv 4) de_str) da_nil)))))))
      (dss_one (ds_set (i := 1) sc__law_all.nd (dv 3))))))
      (dss_one (ds_ret (dv 1))))), ?_⟩
  rintro ds S Q ⟨n, rfl, hn, q⟩
  walk_at "d"
  have hp := pow_le hn
  refine for_rng1 (n := n) (fun _ q => q) (by omega) (fun i ρ' S' => ∃ v2 v3 v4, ρ' = [some (.int n), some (.lst (allD i)), v2, v3, v4] ∧ S = S') ⟨_, _, _, by rw [← all0]; rfl, rfl⟩ ?_ ?_
  · rintro i ρ' S' hi ⟨v2, v3, v4, rfl, rfl⟩
    have hpi := pow_le (n := i) (by omega)
    walk_at "d"
    refine for_lst (L := allD i) (fun _ q => q) (fun j ρ' S' => ∃ v2 v4, ρ' = [some (.int n), some (.lst (allD i)), v2, some (.lst (extD ((allW i).take j))), v4] ∧ S = S') ⟨_, _, rfl, rfl⟩ ?_ ?_
    · rintro j d ρ' S' hj ⟨v2, v4, rfl, rfl⟩
      obtain ⟨w, hw, rfl, hl⟩ := allD_get hj
      have hjl := (List.getElem?_eq_some_iff.mp hw).1
      rw [allW_size] at hjl
      walk_at "d"
      refine ⟨tx_szs (b := true) (by omega), ?_⟩
      rw [tx_A]
      walk_at "d"
      refine ⟨tx_szs (b := false) (by omega), ?_⟩
      rw [tx_B]
      walk_at "d"
      refine ⟨sz_le (by rw [extD_len, List.length_take, allW_size]; show 2 * min j (2 ^ i) + 2 ≤ _; omega), ?_⟩
      rw [← extD_snoc, ← take_snoc hw]
      walk_at "d"
      exact ⟨_, _, rfl, rfl⟩
    · rintro ρ' S' ⟨v2, v4, rfl, rfl⟩
      rw [allD_len, ← allW_size, List.take_length]
      walk_at "d"
      exact ⟨_, _, _, rfl, rfl⟩
  · rintro ρ' S' ⟨v2, v3, v4, rfl, rfl⟩
    walk_at "d"
    exact Leave.now q
theorem ok__law_sheet (B : Bts mg) (F0 : FunD K mg "_law_sheet" s__law_sheet ["tape", "first", "text", "most"]) (F__law_draw : FnD P w K mg base 1 "_law_draw" sp_l_draw) (F__law_far : FnD P w K mg base 1 "_law_far" sp_l_far) (F__law_now : FnD P w K mg base 1 "_law_now" sp_l_now) : FnD P w K mg base 2 "_law_sheet" sp_l_sheet := by
  refine okF F0 sc__law_sheet (fun ds S Q h => by obtain ⟨_, _, _, _, e, _⟩ := h; subst e; rfl) fun f cdv A outer s H E hr => ⟨_, _, (dss_cons (ds_set (i := 4) sc__law_sheet.nd (de_lstO da_nil))
      (dss_cons (ds_for PassesOwn.never rfl (di_rng1 (by rfl) B.range (de_op (k_add (K := K)) (de_callB (k_len (K := K)) (by rfl) B.len bb_len (da_cons (dv 2) da_nil)) de_int)) (dg_name (i := 5) sc__law_sheet.nd) (dss_one (ds_if (DW.dt (dw_or (dt_cmp (k_eq (K := K) (Room.u64 hr)) (dv 5) (de_callB (k_len (K := K)) (by rfl) B.len bb_len (da_cons (dv 2) da_nil))) (dw_or1 (dt_cmp (k_eq (K := K) (Room.u64 hr)) (k_fn (K := K) F__law_draw (hr.mono (by decide)) (by rfl) (da_cons (dv 0) (da_cons de_int da_nil))) de_int)))) (dss_one (ds_expr (k_app (K := K) (dv 4) (k_sl (K := K) (k_fn (K := K) F__law_now (hr.mono (by decide)) (by rfl) (da_cons (dv 1) (da_cons (k_sl (K := K) (dv 2) dpo_none (dpo_some (dv 5))) da_nil))) dpo_none (dpo_some de_int))))) dss_nil)))
      (dss_cons (ds_set (i := 4) sc__law_sheet.nd (k_slO (K := K) (dv 4) (dpo_some (de_neg (dv 3))) dpo_none))
      (dss_cons (ds_if (dt_cmp (k_eq (K := K) (Room.u64 hr)) (k_fn (K := K) F__law_draw (hr.mono (by decide)) (by rfl) (da_cons (dv 0) (da_cons de_int da_nil))) de_int) (dss_cons (ds_set (i := 6) sc__law_sheet.nd (k_fn (K := K) F__law_draw (hr.mono (by decide)) (by rfl) (da_cons (dv 0) (da_cons (de_callB (k_len (K := K)) (by rfl) B.len bb_len (da_cons (dv 4) da_nil)) da_nil))))
      (dss_one (ds_setL (de_op (k_add (K := K)) (k_sl (K := K) (k_ix (K := K) (dv 4) (dv 6)) dpo_none (dpo_some de_int)) (de_tup (da_cons (k_fn (K := K) F__law_far (hr.mono (by decide)) (by rfl) (da_cons (k_ix (K := K) (k_ix (K := K) (dv 4) (dv 6)) de_int) da_nil)) da_nil))) (dv 4) (dv 6)))) dss_nil)
      (dss_one (ds_ret (de_callTy (k_tuple (K := K)) (by rfl) B.tuple bb_tuple (da_cons (dv 4) da_nil)))))))), ?_⟩
  rintro ds S Q ⟨T, tp, f, w, rfl, hw, hT, tO, q⟩
  obtain ⟨S, rfl⟩ := updS_ex hT
  walk_at "d"
  intro l hl
  have hne := none_ne hl
  walk_at "d"
  refine for_rng1 (n := (w.length : Int) + 1) (fun _ q => ?_) (by omega) (fun i ρ' S' => ∃ v5 v6, ρ' = [some (.ref T), some (.str (sd f)), some (.str (tx w)), some (.int 12), some (.ref l), v5, v6] ∧ ∃ tp L, S' = updS (updS S T tp) l (.lst (L.map En.D)) ∧ ShP f w i L ∧ TapeOk tp) ⟨_, _, rfl, tp, [], rfl, ShP.nil f w, tO⟩ ?_ ?_
  · walk_at "d"
    refine ⟨tx_sz (by omega), ?_⟩
    rw [tx_len]
    walk_at "d"
    exact q
  · rintro i ρ' S' hi ⟨v5, v6, rfl, tp, L, rfl, hP, tO⟩
    have hPl := hP.len
    walk_at "d"
    refine ⟨tx_sz (by omega), ?_⟩
    rw [tx_len]
    walk_at "d"
    refine br_dec (fun h1 => ?_) (fun h1 => ?_)
    · walk_at "d"
      refine ⟨tx_sz (by omega), ?_⟩
      rw [cutS_tx, cutL_to _ (by omega)]
      walk_at "d"
      refine ⟨f, w.take i, rfl, ?_⟩
      walk_at "d"
      refine ⟨sz_le (by rw [List.length_map]; omega), ?_⟩
      walk_at "d"
      refine ⟨_, _, rfl, tp, _, ?_, hP.put, tO⟩
      rw [updS_updS, List.map_append]; rfl
    · walk_at "d"
      refine ⟨_, _, _, rfl, by decide, by rw [updS_ne hne]; exact updS_same, tO, fun d tp d0 d1 tO => ?_⟩
      rw [updS_put1 hne]
      walk_at "d"
      refine br_dec (fun h2 => ?_) (fun h2 => ?_)
      · walk_at "d"
        refine ⟨tx_sz (by omega), ?_⟩
        rw [cutS_tx, cutL_to _ (by omega)]
        walk_at "d"
        refine ⟨f, w.take i, rfl, ?_⟩
        walk_at "d"
        refine ⟨sz_le (by rw [List.length_map]; omega), ?_⟩
        walk_at "d"
        refine ⟨_, _, rfl, tp, _, ?_, hP.put, tO⟩
        rw [updS_updS, List.map_append]; rfl
      · walk_at "d"
        exact ⟨_, _, rfl, tp, L, rfl, hP.skip (by omega), tO⟩
  · rintro ρ' S' ⟨v5, v6, rfl, tp, L, rfl, hP, tO⟩
    rw [show ((w.length : Int) + 1).toNat = w.length + 1 by omega] at hP
    have hok := hP.ok hw
    have hl9 := hok.len
    walk_at "d"
    intro l2 hl2
    rw [cut_last (by rw [List.length_map]; omega)] at *
    have hne1 := none_ne hl2
    have hne2 := none_ne (none_old hl2)
    have hl0 : S l = none := none_old hl
    have hl20 : S l2 = none := none_old (none_old hl2)
    have hsub : ∀ tp' X Y, Sub (updS S T tp') (updS (updS (updS S T tp') l X) l2 Y) := fun tp' X Y => Sub.trans (sub_new (by rw [updS_ne (Ne.symm hne)]; exact hl0)) (sub_new (by rw [updS_ne (Ne.symm hne1), updS_ne (Ne.symm hne2)]; exact hl20))
    have hput : ∀ tp tp' X Y, updS (updS (updS (updS S T tp) l X) l2 Y) T tp' = updS (updS (updS S T tp') l X) l2 Y := fun tp tp' X Y => by rw [updS_comm (Ne.symm hne2), updS_put1 hne]
    have hat : ∀ tp X Y, updS (updS (updS S T tp) l X) l2 Y T = some tp := fun tp X Y => by rw [updS_ne hne2, updS_ne hne]; exact updS_same
    have hq : ∀ (L2 : List En) (tp' : MO), ShOk f L2 → TapeOk tp' → Q (.tup (L2.map En.D)) (updS S T tp') := fun L2 tp' a b => by
      have := q L2 tp' a b
      rw [updS_updS] at this
      exact this
    walk_at "d"
    refine ⟨_, _, _, rfl, by decide, hat _ _ _, tO, fun d tp d0 d1 tO => ?_⟩
    rw [hput]
    walk_at "d"
    refine br_dec (fun h1 => ?_) (fun h1 => ?_)
    · walk_at "d"
      rw [List.length_map]
      have hpos := List.length_pos_iff.mpr hok.ne
      refine ⟨_, _, _, rfl, by omega, hat _ _ _, tO, fun j tp j0 j1 tO => ?_⟩
      rw [hput]
      obtain ⟨j, rfl⟩ := Int.eq_ofNat_of_zero_le j0
      have hj : L[j]? = some (L[j]'(by omega)) := List.getElem?_eq_getElem _
      generalize L[j]'(by omega) = e at hj
      have hjD : atI (L.map En.D) (j : Int) = some e.D := at_map (atI_nat hj)
      unfold En.D at hjD
      walk_at "d"
      refine TheItem.of hjD ?_
      walk_at "d"
      refine TheItem.of hjD ?_
      walk_at "d"
      refine ⟨e.s, rfl, ?_⟩
      walk_at "d"
      refine TheItem.of (d := j) (by unfold L2.ixN; rw [if_pos (by omega), if_pos (by rw [List.length_map]; omega)]; simp) ?_
      rw [updS_updS, show cutL [D.int e.a, D.int e.b, D.str (sd e.s)] none (some 2) ++ [D.str (sd !e.s)] = [D.int e.a, D.int e.b, D.str (sd !e.s)] from rfl, show (L.map En.D).set j (D.tup [D.int e.a, D.int e.b, D.str (sd !e.s)]) = (L.set j ⟨e.a, e.b, !e.s⟩).map En.D from by rw [List.map_set]; rfl]
      walk_at "d"
      exact Leave.sub (hsub _ _ _) (hq _ tp (hok.flip hj) tO)
    · walk_at "d"
      exact Leave.sub (hsub _ _ _) (hq L tp hok tO)
theorem ok__law_fitting (B : Bts mg) (F0 : FunD K mg "_law_fitting" s__law_fitting ["first", "sheet"]) (F__law_all : FnD P w K mg base 1 "_law_all" sp_l_all) (F__law_now : FnD P w K mg base 1 "_law_now" sp_l_now) : FnD P w K mg base 2 "_law_fitting" sp_l_fitting := by
  refine okF F0 sc__law_fitting (fun ds S Q h => by obtain ⟨_, _, e, _⟩ := h; subst e; rfl) fun f cdv A outer s H E hr => ⟨_, _, (dss_cons (ds_set (i := 2) sc__law_fitting.nd (de_lstO da_nil))
      (dss_cons (ds_for PassesOwn.never rfl (k_diList (K := K) (k_fn (K := K) F__law_all (hr.mono (by decide)) (by rfl) (da_cons (de_op (k_add (K := K)) (k_ix (K := K) (k_ix (K := K) (dv 1) (de_neg de_int)) de_int) (k_ix (K := K) (k_ix (K := K) (dv 1) (de_neg de_int)) de_int)) da_nil))) (dg_name (i := 3) sc__law_fitting.nd) (dss_one (ds_if (dt_cmp (k_eq (K := K) (Room.u64 hr)) (de_lc (own := [("a", 4), ("b", 5), ("side", 6)]) rfl sc__law_fitting.nd (k_diTup (K := K) (dv 1)) (blkOk_by (own := [("a", 4), ("b", 5), ("side", 6)]) (N := ["first", "sheet", "found", "text", "a", "b", "side"]) (sc := (defScope s__law_fitting)) (by decide +kernel)) (fun _ _ _ _ _ => (k_dgTup (K := K) (n := 3) rfl (dgs_cons (dg_name (i := 4) sc__law_fitting.nd) (dgs_cons (dg_name (i := 5) sc__law_fitting.nd) (dgs_cons (dg_name (i := 6) sc__law_fitting.nd) dgs_nil))))) (fun _ _ _ _ _ => (dts_one (dt_cmp (k_ne (K := K) (Room.u64 hr)) (k_sl (K := K) (k_fn (K := K) F__law_now (hr.mono (by decide)) (by rfl) (da_cons (dv 0) (da_cons (k_sl (K := K) (dv 3) dpo_none (dpo_some (de_op (k_add (K := K)) (dv 4) (dv 5)))) da_nil))) dpo_none (dpo_some de_int)) (de_tup (da_cons (dv 4) (da_cons (dv 5) (da_cons (dv 6) da_nil))))))) (fun _ _ _ _ _ => de_int)) (de_lst da_nil)) (dss_one (ds_expr (k_app (K := K) (dv 2) (dv 3)))) dss_nil)))
      (dss_one (ds_ret (dv 2))))), ?_⟩
  rintro ds S Q ⟨f, L, rfl, hL, q⟩
  obtain ⟨e0, he0, hm0, hl0, t0, t8⟩ := hL.last
  obtain ⟨N, hN⟩ : ∃ N : Nat, N = (lastT (z0 f) L).toNat := ⟨_, rfl⟩
  have hN2 : (N : Int) = e0.a + e0.b := by rw [hN, hl0]; unfold totE at t0 ⊢; omega
  have hN8 : N ≤ 8 := by rw [hN, hl0]; omega
  have hLl := hL.len
  walk_at "d"
  intro l hl
  walk_at "d"
  have hlast : atI (L.map En.D) (-1) = some (.tup [.int e0.a, .int e0.b, .str (sd e0.s)]) := at_map (f := En.D) (at_neg1 (by rw [← List.getLast?_eq_getElem?]; exact he0))
  refine for_lst (L := allD N) (fun _ q => ?_) (fun i ρ' S' => ∃ v3 v4 v5 v6, ρ' = [some (.str (sd f)), some (.tup (L.map En.D)), some (.ref l), v3, v4, v5, v6] ∧ S' = updS S l (.lst ((((allW N).take i).filter (okE (z0 f) L)).map fun w => D.str (tx w)))) ⟨_, _, _, _, rfl, rfl⟩ ?_ ?_
  · walk_at "d"
    refine TheItem.of hlast ?_
    walk_at "d"
    refine TheItem.of hlast ?_
    walk_at "d"
    exact ⟨N, by rw [hN2], by omega, q⟩
  · rintro i d ρ' S' hd ⟨v3, v4, v5, v6, rfl, rfl⟩
    obtain ⟨w, hw, rfl, hwl⟩ := allD_get hd
    walk_at "d"
    refine lc_pure (L := L.map En.D) (fun _ q => q) (sz_le (by rw [List.length_map]; omega)) (badD f w) (fun _ => .int 1) (fun z hz R R0 r r0 => ?_) ?_
    · obtain ⟨e, he, rfl⟩ := List.mem_map.mp hz
      have hb := hL.mem he
      unfold badD En.D at r r0
      unfold En.D
      walk_at "d"
      refine ⟨tx_sz (by omega), ?_⟩
      rw [cutS_tx, cutL_to _ (by omega)]
      walk_at "d"
      refine ⟨f, w.take (e.a + e.b).toNat, rfl, ?_⟩
      walk_at "d"
      refine ⟨⟨ok_en _ _ _, ok_en _ _ _⟩, ?_⟩
      walk_at "d"
      exact br_b (fun z => r0 (congrArg not z)) (fun z => r (congrArg not z))
    · walk_at "d"
      refine ⟨⟨ok_ones _, rfl⟩, ?_⟩
      rw [eqv_nilD, bad_L]
      have hf : ((allW N).take (i + 1)).filter (okE (z0 f) L) = ((allW N).take i).filter (okE (z0 f) L) ++ (if okE (z0 f) L w then [w] else []) := by
        rw [take_snoc hw, List.filter_append, List.filter_cons, List.filter_nil]
      walk_at "d"
      refine br_b (fun z => ?_) (fun z => ?_)
      · rw [if_pos z] at hf
        walk_at "d"
        refine ⟨sz_le ?_, ?_⟩
        · rw [List.length_map]
          have h1 := List.length_filter_le (okE (z0 f) L) ((allW N).take i)
          rw [List.length_take, allW_size] at h1
          have := pow_le (n := N) (by omega)
          omega
        walk_at "d"
        refine ⟨_, _, _, _, rfl, ?_⟩
        rw [updS_updS, hf, List.map_append]; rfl
      · rw [if_neg (by rw [z]; decide), List.append_nil] at hf
        walk_at "d"
        exact ⟨_, _, _, _, rfl, by rw [hf]⟩
  · rintro ρ' S' ⟨v3, v4, v5, v6, rfl, rfl⟩
    rw [allD_len, ← allW_size, List.take_length]
    walk_at "d"
    refine Leave.lst hl ?_
    unfold rowsD rowsW at q
    rw [← hN] at q
    exact q
theorem okLaw {f0 : Addr} {fd : FuncData} (B : Bts mg) (F0 : Fun K "law" "law" s_law f0 fd) (F__law_draw : FnD P w K mg base 1 "_law_draw" sp_l_draw) (F__law_fitting : FnD P w K mg base 2 "_law_fitting" sp_l_fitting) (F__law_like : FnD P w K mg base 5 "_law_like" sp_l_like) (F__law_now : FnD P w K mg base 1 "_law_now" sp_l_now) (F__law_sheet : FnD P w K mg base 2 "_law_sheet" sp_l_sheet) (F__law_side : FnD P w K mg base 2 "_law_side" sp_l_side) (F__law_sizes : FnD P w K mg base 2 "_law_sizes" sp_l_sizes) (F_change_ranges : FnD P w K mg base 5 "change_ranges" sp_change_ranges) (F_count_sheet : FnD P w K mg base 5 "count_sheet" sp_count_sheet) (F_first_wrong : FnD P w K mg base 3 "first_wrong" sp_first_wrong) (F_fits : FnD P w K mg base 4 "fits" sp_fits) (F_rotations_at : FnD P w K mg base 6 "rotations_at" sp_rotations_at) : FnOk P w K mg base CX0 7 f0 fd ["script"] (toSp K spLawD) := by
  refine okD F0 sc_law (fun ds S Q h => by obtain ⟨_, e, _⟩ := h; subst e; rfl) fun cdv A outer s H E hr => ⟨_, _, (dss_cons (ds_set (i := 1) sc_law.nd (de_lstO (da_cons (de_callTy (k_list (K := K)) (by rfl) B.list bb_list (da_cons (dv 0) da_nil)) (da_cons de_int (da_cons de_int da_nil)))))
      (dss_cons (ds_for PassesOwn.never rfl (di_rng1 (by rfl) B.range de_int) (dg_name (i := 2) sc_law.nd) (dss_cons (ds_asg (de_tup (da_cons (k_fn (K := K) F__law_side (hr.mono (by decide)) (by rfl) (da_cons (dv 1) da_nil)) (da_cons (k_fn (K := K) F__law_sizes (hr.mono (by decide)) (by rfl) (da_cons (dv 1) da_nil)) da_nil))) (k_dgTup (K := K) (n := 2) rfl (dgs_cons (dg_name (i := 3) sc_law.nd) (dgs_cons (dg_name (i := 4) sc_law.nd) dgs_nil))))
      (dss_cons (ds_set (i := 5) sc_law.nd de_str)
      (dss_cons (ds_for PassesOwn.never rfl (di_rng1 (by rfl) B.range (k_fn (K := K) F__law_draw (hr.mono (by decide)) (by rfl) (da_cons (dv 1) (da_cons de_int da_nil)))) (dg_name (i := 6) sc_law.nd) (dss_one (ds_set (i := 5) sc_law.nd (de_op (k_add (K := K)) (dv 5) (k_fn (K := K) F__law_side (hr.mono (by decide)) (by rfl) (da_cons (dv 1) da_nil))))))
      (dss_cons (ds_set (i := 7) sc_law.nd (k_fn (K := K) F__law_sheet (hr.mono (by decide)) (by rfl) (da_cons (dv 1) (da_cons (dv 3) (da_cons (dv 5) (da_cons de_int da_nil))))))
      (dss_cons (ds_set (i := 8) sc_law.nd (k_fn (K := K) F__law_fitting (hr.mono (by decide)) (by rfl) (da_cons (dv 3) (da_cons (dv 7) da_nil))))
      (dss_cons (ds_if (DW.dt (dw_or (dt_not (k_tru (K := K) (k_fn (K := K) F__law_like (hr.mono (by decide)) (by rfl) (da_cons (k_fn (K := K) F_count_sheet (hr.mono (by decide)) (by rfl) (da_cons (dv 3) (da_cons (dv 7) da_nil))) (da_cons (de_callB (k_len (K := K)) (by rfl) B.len bb_len (da_cons (dv 8) da_nil)) da_nil))))) (dw_or1 (dt_not (k_tru (K := K) (k_fn (K := K) F__law_like (hr.mono (by decide)) (by rfl) (da_cons (k_fn (K := K) F_fits (hr.mono (by decide)) (by rfl) (da_cons (dv 3) (da_cons (dv 7) da_nil))) (da_cons (de_cmp (k_ne (K := K) (Room.u64 hr)) (dv 8) (de_lst da_nil)) da_nil)))))))) (dss_one (ds_ret de_bl)) dss_nil)
      (dss_cons (ds_setLc (i := 9) (own := [("at", 16)]) rfl sc_law.nd (sw_true rfl rfl rfl (by decide +kernel)) (di_rng1 (by rfl) B.range (de_callB (k_len (K := K)) (by rfl) B.len bb_len (da_cons (dv 7) da_nil))) (blkOk_by (own := [("at", 16)]) (N := ["script", "tape", "turn", "first", "sizes", "text", "rally", "sheet", "rows", "bad", "ranges", "index", "entry", "seen", "pairs", "many", "at", "row", "one", "other"]) (sc := (defScope s_law)) (by decide +kernel)) (fun _ _ _ _ _ => (dg_name (i := 16) sc_law.nd)) (fun _ _ _ _ _ => (dts_one (dt_cmp (k_eq (K := K) (Room.u64 hr)) (k_fn (K := K) F__law_fitting (hr.mono (by decide)) (by rfl) (da_cons (dv 3) (da_cons (k_sl (K := K) (dv 7) dpo_none (dpo_some (de_op (k_add (K := K)) (dv 16) de_int))) da_nil))) (de_lst da_nil)))) (fun _ _ _ _ _ => (dv 16)))
      (dss_cons (ds_if (dt_not (k_tru (K := K) (k_fn (K := K) F__law_like (hr.mono (by decide)) (by rfl) (da_cons (k_fn (K := K) F_first_wrong (hr.mono (by decide)) (by rfl) (da_cons (dv 3) (da_cons (dv 7) da_nil))) (da_cons (de_if (dt_cmp (k_ne (K := K) (Room.u64 hr)) (dv 9) (de_lst da_nil)) (k_ix (K := K) (dv 9) de_int) de_non) da_nil))))) (dss_one (ds_ret de_bl)) dss_nil)
      (dss_cons (ds_set (i := 10) sc_law.nd (de_lstO da_nil))
      (dss_cons (ds_for PassesOwn.never rfl (k_diEnumT (K := K) (by rfl) B.enumerate (dv 7)) (k_dgTup (K := K) (n := 2) rfl (dgs_cons (dg_name (i := 11) sc_law.nd) (dgs_cons (dg_name (i := 12) sc_law.nd) dgs_nil))) (dss_cons (ds_setLc (i := 13) (own := [("row", 17)]) rfl sc_law.nd (sw_true rfl rfl rfl (by decide +kernel)) (k_diList (K := K) (dv 8)) (blkOk_by (own := [("row", 17)]) (N := ["script", "tape", "turn", "first", "sizes", "text", "rally", "sheet", "rows", "bad", "ranges", "index", "entry", "seen", "pairs", "many", "at", "row", "one", "other"]) (sc := (defScope s_law)) (by decide +kernel)) (fun _ _ _ _ _ => (dg_name (i := 17) sc_law.nd)) (fun _ _ _ _ _ => dts_nil) (fun _ _ _ _ _ => (k_sl (K := K) (k_fn (K := K) F__law_now (hr.mono (by decide)) (by rfl) (da_cons (dv 3) (da_cons (k_sl (K := K) (dv 17) dpo_none (dpo_some (de_op (k_add (K := K)) (k_ix (K := K) (dv 12) de_int) (k_ix (K := K) (dv 12) de_int)))) da_nil))) (dpo_some de_int) dpo_none)))
      (dss_cons (ds_set (i := 14) sc_law.nd (de_sortSetD rfl (Room.u64 hr) (by rfl) B.sorted (by rfl) B.set (de_lc (own := [("one", 18), ("other", 19)]) rfl sc_law.nd (k_diList (K := K) (dv 13)) (blkOk_by (own := [("one", 18), ("other", 19)]) (N := ["script", "tape", "turn", "first", "sizes", "text", "rally", "sheet", "rows", "bad", "ranges", "index", "entry", "seen", "pairs", "many", "at", "row", "one", "other"]) (sc := (defScope s_law)) (by decide +kernel)) (fun _ _ _ _ _ => (k_dgTup (K := K) (n := 2) rfl (dgs_cons (dg_name (i := 18) sc_law.nd) (dgs_cons (dg_name (i := 19) sc_law.nd) dgs_nil)))) (fun _ _ _ _ _ => dts_nil) (fun _ _ _ _ _ => (de_tup (da_cons (de_op do_mod (dv 18) (k_ix (K := K) (dv 4) de_int)) (da_cons (de_op do_mod (dv 19) (k_ix (K := K) (dv 4) de_int)) da_nil)))))))
      (dss_cons (ds_if (dt_not (k_tru (K := K) (k_fn (K := K) F__law_like (hr.mono (by decide)) (by rfl) (da_cons (k_fn (K := K) F_rotations_at (hr.mono (by decide)) (by rfl) (da_cons (dv 4) (da_cons (dv 3) (da_cons (dv 7) (da_cons (dv 11) da_nil))))) (da_cons (dv 14) da_nil))))) (dss_one (ds_ret de_bl)) dss_nil)
      (dss_one (ds_if (dt_cmp (k_ne (K := K) (Room.u64 hr)) (dv 8) (de_lst da_nil)) (dss_cons (ds_set (i := 15) sc_law.nd (de_sortSetI2 (K := K) rfl (by rfl) B.sorted (by rfl) B.set (de_lc (own := [("one", 18), ("other", 19)]) rfl sc_law.nd (k_diList (K := K) (dv 13)) (blkOk_by (own := [("one", 18), ("other", 19)]) (N := ["script", "tape", "turn", "first", "sizes", "text", "rally", "sheet", "rows", "bad", "ranges", "index", "entry", "seen", "pairs", "many", "at", "row", "one", "other"]) (sc := (defScope s_law)) (by decide +kernel)) (fun _ _ _ _ _ => (k_dgTup (K := K) (n := 2) rfl (dgs_cons (dg_name (i := 18) sc_law.nd) (dgs_cons (dg_name (i := 19) sc_law.nd) dgs_nil)))) (fun _ _ _ _ _ => dts_nil) (fun _ _ _ _ _ => (de_op (k_add (K := K)) (dv 18) (dv 19))))))
      (dss_cons (ds_expr (k_app (K := K) (dv 10) (de_tup (da_cons (k_ix (K := K) (dv 15) de_int) (da_cons (k_ix (K := K) (dv 15) (de_neg de_int)) da_nil)))))
      (dss_one (ds_if (dt_cmp (k_ne (K := K) (Room.u64 hr)) (dv 15) (de_listRg3 rfl (by rfl) B.list (by rfl) B.range (da_cons (k_ix (K := K) (dv 15) de_int) (da_cons (de_op (k_add (K := K)) (k_ix (K := K) (dv 15) (de_neg de_int)) de_int) (da_cons de_int da_nil))))) (dss_one (ds_ret de_bl)) dss_nil)))) dss_nil))))))
      (dss_one (ds_if (dt_not (k_tru (K := K) (k_fn (K := K) F__law_like (hr.mono (by decide)) (by rfl) (da_cons (k_fn (K := K) F_change_ranges (hr.mono (by decide)) (by rfl) (da_cons (dv 3) (da_cons (dv 7) da_nil))) (da_cons (dv_era 10) da_nil))))) (dss_one (ds_ret de_bl)) dss_nil)))))))))))))
      (dss_one (ds_ret (de_and (de_cmp (k_eq (K := K) (Room.u64 hr)) (k_fn (K := K) F_first_wrong (hr.mono (by decide)) (by rfl) (da_cons de_str (da_cons (de_tup (da_cons (de_tup (da_cons de_int (da_cons de_int (da_cons de_str da_nil)))) da_nil)) da_nil))) de_int) (de_one (de_cmp (k_eq (K := K) (Room.u64 hr)) (k_fn (K := K) F_count_sheet (hr.mono (by decide)) (by rfl) (da_cons de_str (da_cons (de_tup (da_cons (de_tup (da_cons de_int (da_cons de_int (da_cons de_str da_nil)))) da_nil)) da_nil))) de_int))))))), ?_⟩
  rintro ds S Q ⟨ns, rfl, rfl, hns, q⟩
  walk_at "d"
  intro p hp
  walk_at "d"
  refine for_rng1 (n := 3) (fun _ q => q) (by decide) (fun i ρ' S' => ∃ v2 v3 v4 v5 v6 v7 v8 v9 v10 v11 v12 v13 v14 v15 v16 v17 v18 v19, ρ' = [some (.fz (ns.map D.int)), some (.ref p), v2, v3, v4, v5, v6, v7, v8, v9, v10, v11, v12, v13, v14, v15, v16, v17, v18, v19] ∧ ∃ S tp, S' = updS S p tp ∧ TapeOk tp) ⟨_, _, _, _, _, _, _, _, _, _, _, _, _, _, _, _, _, _, rfl, _, _, rfl, ⟨ns, 0, 0, rfl, by decide, by decide⟩⟩ ?_ ?_
  · rintro i ρ' S' hi ⟨v2, v3, v4, v5, v6, v7, v8, v9, v10, v11, v12, v13, v14, v15, v16, v17, v18, v19, rfl, S, tp, rfl, tO⟩
    walk_at "d"
    refine ⟨_, _, rfl, updS_same, tO, fun f tp tO => ?_⟩
    rw [updS_updS]
    walk_at "d"
    refine ⟨_, _, rfl, updS_same, tO, fun p1 p2 tp hs tO => ?_⟩
    rw [updS_updS]
    obtain ⟨a0, rfl⟩ := Int.eq_ofNat_of_zero_le (show 0 ≤ p1 by omega)
    obtain ⟨b0, rfl⟩ := Int.eq_ofNat_of_zero_le (show 0 ≤ p2 by omega)
    have ha : (0 : Int) < a0 := by omega
    have hb : (0 : Int) < b0 := by omega
    walk_at "d"
    refine ⟨?_⟩
    walk_at "d"
    refine ⟨_, _, _, rfl, by decide, updS_same, tO, fun d tp d0 d1 tO => ?_⟩
    rw [updS_updS]
    walk_at "d"
    refine ⟨by omega, fun i ρ' S' => ∃ w, ∃ v2 v6 v7 v8 v9 v10 v11 v12 v13 v14 v15 v16 v17 v18 v19, ρ' = [some (.fz (ns.map D.int)), some (.ref p), v2, some (.str (sd f)), some (.tup [.int a0, .int b0]), some (.str (tx w)), v6, v7, v8, v9, v10, v11, v12, v13, v14, v15, v16, v17, v18, v19] ∧ ∃ tp, S' = updS S p tp ∧ w.length = i ∧ TapeOk tp, ⟨[], by rw [tx_nil]; exact ⟨_, _, _, _, _, _, _, _, _, _, _, _, _, _, _, rfl, _, rfl, rfl, tO⟩⟩, ?_, ?_⟩
    · rintro i z ρ' S' hz ⟨w, ⟨v2, v6, v7, v8, v9, v10, v11, v12, v13, v14, v15, v16, v17, v18, v19, rfl, tp, rfl, hw, tO⟩⟩
      obtain ⟨hi2, rfl⟩ := rngL_get hz
      walk_at "d"
      refine ⟨_, _, rfl, updS_same, tO, fun b tp tO => ?_⟩
      rw [updS_updS]
      walk_at "d"
      refine ⟨tx_szs (by omega), ?_⟩
      rw [tx_snoc]
      walk_at "d"
      exact ⟨w ++ [b], _, _, _, _, _, _, _, _, _, _, _, _, _, _, _, rfl, _, rfl, by rw [List.length_append]; exact congrArg (· + 1) hw, tO⟩
    · rintro ρ' S' ⟨w, ⟨v2, v6, v7, v8, v9, v10, v11, v12, v13, v14, v15, v16, v17, v18, v19, rfl, tp, rfl, hw, tO⟩⟩
      rw [rngL_len] at hw
      walk_at "d"
      refine ⟨_, _, f, w, rfl, by omega, updS_same, tO, fun L tp hL tO => ?_⟩
      rw [updS_updS]
      have hst := okSh_st hL.sh
      have hL9 := hL.len
      walk_at "d"
      refine ⟨f, L, rfl, hL, ?_⟩
      walk_at "d"
      refine ⟨f, L, rfl, hL.sh, ?_⟩
      walk_at "d"
      rw [rowsD_len hL]
      refine ⟨_, rfl, rfl, ?_⟩
      walk_at "d"
      refine ⟨f, L, rfl, by omega, hst, ?_⟩
      walk_at "d"
      refine ⟨⟨ok_rows f L, rfl⟩, ?_⟩
      rw [eqv_nilD, rowsD_emp hL, Bool.not_not]
      walk_at "d"
      refine ⟨_, rfl, rfl, ?_⟩
      walk_at "d"
      refine lc_rng1 (n := (L.length : Int)) (fun _ q => by walk_at "d"; rw [List.length_map]; exact q) (by omega) (fun i => !fitM f (L.take (i.toNat + 1))) (fun i => .int i) (fun i g0 g1 R R0 r r0 => ?_) ?_
      · walk_at "d"
        rw [cutL_to _ (by omega), ← List.map_take, show (i + 1).toNat = i.toNat + 1 by omega]
        have hLi := hL.take i.toNat
        refine ⟨f, _, rfl, hLi, ?_⟩
        walk_at "d"
        refine ⟨⟨ok_rows f _, rfl⟩, ?_⟩
        rw [eqv_nilD, rowsD_emp hLi]
        exact br_b (fun z => by walk_at "d"; exact r z) (fun z => r0 z)
      rw [show List.filter (fun i => !fitM f (List.take (i.toNat + 1) L)) (irg 0 (L.length : Int)) = badL f L from rfl]
      walk_at "d"
      refine ⟨f, L, rfl, by omega, hst, ?_⟩
      walk_at "d"
      refine ⟨⟨ok_ints, rfl⟩, ?_⟩
      have hbd := bad_fw (f := f) (L := L)
      rw [eqv_nilD]
      cases hfw : fwM f L with
      | none =>
        rw [hfw] at hbd
        have hbd : badL f L = [] := hbd
        rw [hbd]
        refine br_no rfl ?_
        walk_at "d"
        refine ⟨_, rfl, rfl, ?_⟩
        walk_at "d"
        intro l hl
        have hne := none_ne hl
        walk_at "d"
        dsimp only [List.set]
        refine for_enumT (xs := L.map En.D) (fun _ q => q) (fun i ρ' S' => ∃ v2 v5 v6 v9 v11 v12 v13 v14 v15 v16 v17 v18 v19, ρ' = [some (.fz (ns.map D.int)), some (.ref p), v2, some (.str (sd f)), some (.tup [.int a0, .int b0]), v5, v6, some (.tup (L.map En.D)), some (.lst (rowsD f L)), v9, some (.ref l), v11, v12, v13, v14, v15, v16, v17, v18, v19] ∧ S' = updS (updS S p tp) l (.lst ((if fitM f L then rngP (ccL f L) i else []).map DL.pairD))) (by rw [show (if fitM f L = true then rngP (ccL f L) 0 else []) = [] from by split <;> rfl]; exact ⟨_, _, _, _, _, _, _, _, _, _, _, _, _, rfl, rfl⟩) ?_ ?_
        · rintro i x ρ' S' hx ⟨v2, v5, v6, v9, v11, v12, v13, v14, v15, v16, v17, v18, v19, rfl, rfl⟩
          obtain ⟨e, he, rfl⟩ := mapD_get hx
          have hi := (List.getElem?_eq_some_iff.mp he).1
          rw [show e.D = D.tup [.int e.a, .int e.b, .str (sd e.s)] from rfl]
          have hem := hL.mem (List.mem_of_getElem? he)
          have hrl := rowsW_len hL
          walk_at "d"
          refine mc_of (l := rowsW f L) (fun v => D.str (tx v)) (fun v => DL.pairD ((ctE f e v).x, (ctE f e v).y)) (fun R r => by walk_at "d"; exact r) (by omega) (fun v hv R R0 r => ?_) ?_
          · have hvl := rowsW_wid hL hv
            walk_at "d"
            refine ⟨tx_sz (by omega), ?_⟩
            rw [cutS_tx, cutL_to _ (by omega)]
            walk_at "d"
            refine ⟨f, v.take (e.a + e.b).toNat, rfl, ?_⟩
            walk_at "d"
            exact r
          walk_at "d"
          refine mc_of (l := rowsW f L) (fun v => DL.pairD ((ctE f e v).x, (ctE f e v).y)) (fun v => DL.pairD ((ctE f e v).x % (a0 : Int), (ctE f e v).y % (b0 : Int))) (fun R r => by walk_at "d"; exact r) (by omega) (fun v hv R R0 r => ?_) ?_
          · rw [show DL.pairD ((ctE f e v).x, (ctE f e v).y) = D.tup [.int (ctE f e v).x, .int (ctE f e v).y] from rfl]
            walk_at "d"
            refine ⟨ha, ?_⟩
            walk_at "d"
            refine ⟨hb, ?_⟩
            walk_at "d"
            exact r
          walk_at "d"
          refine ⟨(rowsW f L).map fun v => ((ctE f e v).x % (a0 : Int), (ctE f e v).y % (b0 : Int)), by rw [List.map_map]; rfl, fun z hz => ?_, fun l1 h1 h2 => pairs_few hL e h1 h2, fun ps hp1 hp2 => ?_⟩
          · obtain ⟨v, _, rfl⟩ := List.mem_map.mp hz
            have q1 := Int.emod_nonneg (ctE f e v).x (show (a0 : Int) ≠ 0 by omega)
            have q2 := Int.emod_lt_of_pos (ctE f e v).x ha
            have q3 := Int.emod_nonneg (ctE f e v).y (show (b0 : Int) ≠ 0 by omega)
            have q4 := Int.emod_lt_of_pos (ctE f e v).y hb
            exact ⟨⟨q1, by omega⟩, q3, by omega⟩
          walk_at "d"
          refine ⟨f, a0, b0, L, i, rfl, by omega, hL.sh, hi, fun ps2 _ h2 h3 => ?_⟩
          have eps : ps2 = ps := ltL_uniq h2 hp1 fun x => by rw [h3, hp2, pairs_iff hL he]
          subst eps
          have hps := pairs_few hL e (ltL_nodup hp1) fun x hx => (hp2 x).mp hx
          walk_at "d"
          refine ⟨_, rfl, like_prs (by omega), ?_⟩
          walk_at "d"
          refine ⟨⟨ok_rows f L, rfl⟩, ?_⟩
          rw [eqv_nilD, rowsD_emp hL]
          dsimp only [List.set]
          cases hf : fitM f L with
          | false =>
            walk_at "d"
            exact ⟨_, _, _, _, _, _, _, _, _, _, _, _, _, rfl, rfl⟩
          | true =>
            walk_at "d"
            refine mc_of (l := rowsW f L) (fun v => DL.pairD ((ctE f e v).x, (ctE f e v).y)) (fun v => D.int ((ctE f e v).x + (ctE f e v).y)) (fun R r => by walk_at "d"; exact r) (by omega) (fun v hv R R0 r => ?_) ?_
            · rw [show DL.pairD ((ctE f e v).x, (ctE f e v).y) = D.tup [.int (ctE f e v).x, .int (ctE f e v).y] from rfl]
              walk_at "d"
              exact r
            walk_at "d"
            refine ⟨(rowsW f L).map fun v => (ctE f e v).x + (ctE f e v).y, by rw [List.map_map]; rfl, by rw [List.length_map]; omega, fun z hz => ?_, fun ms hm1 hm2 => ?_⟩
            · obtain ⟨v, hv, rfl⟩ := List.mem_map.mp hz
              have := ct_bd hL hv e
              omega
            have ems : ms = evs f L i := srt_uniq hm1 (evs_lt f L i) fun x => by rw [hm2, sums_iff hL hf he]
            obtain ⟨m, s1, s2, s3, s4, s5⟩ := evs_shape hL hf hi
            rw [s1] at ems
            subst ems
            have at_lo : atI ((irgC (lowN (ccL f L) (i + 1)) 2 (m + 1)).map D.int) 0 = some (.int (lowN (ccL f L) (i + 1))) := by
              refine at_map (atI_nat (j := 0) ?_)
              unfold irgC
              rw [List.getElem?_map, List.getElem?_range (by omega)]
              simp
            have at_hi : atI ((irgC (lowN (ccL f L) (i + 1)) 2 (m + 1)).map D.int) (-1) = some (.int (highN (ccL f L) (i + 1))) := by
              rw [← s2]
              exact at_map at_irgC_last
            walk_at "d"
            refine TheItem.of at_lo ?_
            walk_at "d"
            refine TheItem.of at_hi ?_
            walk_at "d"
            refine ⟨sz_le (by rw [List.length_map, if_pos rfl, rngP_len]; omega), ?_⟩
            walk_at "d"
            refine TheItem.of at_lo ?_
            walk_at "d"
            refine TheItem.of at_hi ?_
            walk_at "d"
            refine ⟨m + 1, by rw [← s3]; exact RgC.two (by omega), by omega, ?_⟩
            walk_at "d"
            refine ⟨⟨ok_ints, ok_ints⟩, ?_⟩
            walk_at "d"
            refine br_to (eqv_refl (n := 64) ok_ints) ?_
            walk_at "d"
            refine ⟨_, _, _, _, _, _, _, _, _, _, _, _, _, rfl, ?_⟩
            rw [updS_updS, if_pos rfl, if_pos rfl, rngP_succ, List.map_append]; rfl
        · rintro ρ' S' ⟨v2, v5, v6, v9, v11, v12, v13, v14, v15, v16, v17, v18, v19, rfl, rfl⟩
          walk_at "d"
          refine ⟨f, L, rfl, hL.sh, ?_⟩
          walk_at "d"
          rw [era_new hl, List.length_map]
          unfold chR
          refine ⟨_, rfl, like_prs (by split; rw [rngP_len]; omega; exact Nat.zero_le _), ?_⟩
          walk_at "d"
          exact ⟨_, _, _, _, _, _, _, _, _, _, _, _, _, _, _, _, _, _, rfl, _, _, rfl, tO⟩
      | some j =>
        rw [hfw] at hbd
        obtain ⟨hj, hbd⟩ : j < L.length ∧ badL f L = irg j L.length := hbd
        rw [hbd]
        walk_at "d"
        refine br_no (show (List.map (fun i => D.int i) (irg (j : Int) (L.length : Int))).isEmpty = false by rw [irg_cons (by omega)]; rfl) ?_
        walk_at "d"
        refine TheItem.of (d := .int j) (at_map (f := D.int) (by have := at_irg (lo := (j : Int)) (hi := L.length) (i := 0) (by omega) (by omega); rw [Int.add_zero] at this; exact this)) ?_
        walk_at "d"
        refine ⟨_, rfl, rfl, ?_⟩
        walk_at "d"
        intro l hl
        have hne := none_ne hl
        walk_at "d"
        dsimp only [List.set]
        refine for_enumT (xs := L.map En.D) (fun _ q => q) (fun i ρ' S' => ∃ v2 v5 v6 v9 v11 v12 v13 v14 v15 v16 v17 v18 v19, ρ' = [some (.fz (ns.map D.int)), some (.ref p), v2, some (.str (sd f)), some (.tup [.int a0, .int b0]), v5, v6, some (.tup (L.map En.D)), some (.lst (rowsD f L)), v9, some (.ref l), v11, v12, v13, v14, v15, v16, v17, v18, v19] ∧ S' = updS (updS S p tp) l (.lst ((if fitM f L then rngP (ccL f L) i else []).map DL.pairD))) (by rw [show (if fitM f L = true then rngP (ccL f L) 0 else []) = [] from by split <;> rfl]; exact ⟨_, _, _, _, _, _, _, _, _, _, _, _, _, rfl, rfl⟩) ?_ ?_
        · rintro i x ρ' S' hx ⟨v2, v5, v6, v9, v11, v12, v13, v14, v15, v16, v17, v18, v19, rfl, rfl⟩
          obtain ⟨e, he, rfl⟩ := mapD_get hx
          have hi := (List.getElem?_eq_some_iff.mp he).1
          rw [show e.D = D.tup [.int e.a, .int e.b, .str (sd e.s)] from rfl]
          have hem := hL.mem (List.mem_of_getElem? he)
          have hrl := rowsW_len hL
          walk_at "d"
          refine mc_of (l := rowsW f L) (fun v => D.str (tx v)) (fun v => DL.pairD ((ctE f e v).x, (ctE f e v).y)) (fun R r => by walk_at "d"; exact r) (by omega) (fun v hv R R0 r => ?_) ?_
          · have hvl := rowsW_wid hL hv
            walk_at "d"
            refine ⟨tx_sz (by omega), ?_⟩
            rw [cutS_tx, cutL_to _ (by omega)]
            walk_at "d"
            refine ⟨f, v.take (e.a + e.b).toNat, rfl, ?_⟩
            walk_at "d"
            exact r
          walk_at "d"
          refine mc_of (l := rowsW f L) (fun v => DL.pairD ((ctE f e v).x, (ctE f e v).y)) (fun v => DL.pairD ((ctE f e v).x % (a0 : Int), (ctE f e v).y % (b0 : Int))) (fun R r => by walk_at "d"; exact r) (by omega) (fun v hv R R0 r => ?_) ?_
          · rw [show DL.pairD ((ctE f e v).x, (ctE f e v).y) = D.tup [.int (ctE f e v).x, .int (ctE f e v).y] from rfl]
            walk_at "d"
            refine ⟨ha, ?_⟩
            walk_at "d"
            refine ⟨hb, ?_⟩
            walk_at "d"
            exact r
          walk_at "d"
          refine ⟨(rowsW f L).map fun v => ((ctE f e v).x % (a0 : Int), (ctE f e v).y % (b0 : Int)), by rw [List.map_map]; rfl, fun z hz => ?_, fun l1 h1 h2 => pairs_few hL e h1 h2, fun ps hp1 hp2 => ?_⟩
          · obtain ⟨v, _, rfl⟩ := List.mem_map.mp hz
            have q1 := Int.emod_nonneg (ctE f e v).x (show (a0 : Int) ≠ 0 by omega)
            have q2 := Int.emod_lt_of_pos (ctE f e v).x ha
            have q3 := Int.emod_nonneg (ctE f e v).y (show (b0 : Int) ≠ 0 by omega)
            have q4 := Int.emod_lt_of_pos (ctE f e v).y hb
            exact ⟨⟨q1, by omega⟩, q3, by omega⟩
          walk_at "d"
          refine ⟨f, a0, b0, L, i, rfl, by omega, hL.sh, hi, fun ps2 _ h2 h3 => ?_⟩
          have eps : ps2 = ps := ltL_uniq h2 hp1 fun x => by rw [h3, hp2, pairs_iff hL he]
          subst eps
          have hps := pairs_few hL e (ltL_nodup hp1) fun x hx => (hp2 x).mp hx
          walk_at "d"
          refine ⟨_, rfl, like_prs (by omega), ?_⟩
          walk_at "d"
          refine ⟨⟨ok_rows f L, rfl⟩, ?_⟩
          rw [eqv_nilD, rowsD_emp hL]
          dsimp only [List.set]
          cases hf : fitM f L with
          | false =>
            walk_at "d"
            exact ⟨_, _, _, _, _, _, _, _, _, _, _, _, _, rfl, rfl⟩
          | true =>
            walk_at "d"
            refine mc_of (l := rowsW f L) (fun v => DL.pairD ((ctE f e v).x, (ctE f e v).y)) (fun v => D.int ((ctE f e v).x + (ctE f e v).y)) (fun R r => by walk_at "d"; exact r) (by omega) (fun v hv R R0 r => ?_) ?_
            · rw [show DL.pairD ((ctE f e v).x, (ctE f e v).y) = D.tup [.int (ctE f e v).x, .int (ctE f e v).y] from rfl]
              walk_at "d"
              exact r
            walk_at "d"
            refine ⟨(rowsW f L).map fun v => (ctE f e v).x + (ctE f e v).y, by rw [List.map_map]; rfl, by rw [List.length_map]; omega, fun z hz => ?_, fun ms hm1 hm2 => ?_⟩
            · obtain ⟨v, hv, rfl⟩ := List.mem_map.mp hz
              have := ct_bd hL hv e
              omega
            have ems : ms = evs f L i := srt_uniq hm1 (evs_lt f L i) fun x => by rw [hm2, sums_iff hL hf he]
            obtain ⟨m, s1, s2, s3, s4, s5⟩ := evs_shape hL hf hi
            rw [s1] at ems
            subst ems
            have at_lo : atI ((irgC (lowN (ccL f L) (i + 1)) 2 (m + 1)).map D.int) 0 = some (.int (lowN (ccL f L) (i + 1))) := by
              refine at_map (atI_nat (j := 0) ?_)
              unfold irgC
              rw [List.getElem?_map, List.getElem?_range (by omega)]
              simp
            have at_hi : atI ((irgC (lowN (ccL f L) (i + 1)) 2 (m + 1)).map D.int) (-1) = some (.int (highN (ccL f L) (i + 1))) := by
              rw [← s2]
              exact at_map at_irgC_last
            walk_at "d"
            refine TheItem.of at_lo ?_
            walk_at "d"
            refine TheItem.of at_hi ?_
            walk_at "d"
            refine ⟨sz_le (by rw [List.length_map, if_pos rfl, rngP_len]; omega), ?_⟩
            walk_at "d"
            refine TheItem.of at_lo ?_
            walk_at "d"
            refine TheItem.of at_hi ?_
            walk_at "d"
            refine ⟨m + 1, by rw [← s3]; exact RgC.two (by omega), by omega, ?_⟩
            walk_at "d"
            refine ⟨⟨ok_ints, ok_ints⟩, ?_⟩
            walk_at "d"
            refine br_to (eqv_refl (n := 64) ok_ints) ?_
            walk_at "d"
            refine ⟨_, _, _, _, _, _, _, _, _, _, _, _, _, rfl, ?_⟩
            rw [updS_updS, if_pos rfl, if_pos rfl, rngP_succ, List.map_append]; rfl
        · rintro ρ' S' ⟨v2, v5, v6, v9, v11, v12, v13, v14, v15, v16, v17, v18, v19, rfl, rfl⟩
          walk_at "d"
          refine ⟨f, L, rfl, hL.sh, ?_⟩
          walk_at "d"
          rw [era_new hl, List.length_map]
          unfold chR
          refine ⟨_, rfl, like_prs (by split; rw [rngP_len]; omega; exact Nat.zero_le _), ?_⟩
          walk_at "d"
          exact ⟨_, _, _, _, _, _, _, _, _, _, _, _, _, _, _, _, _, _, rfl, _, _, rfl, tO⟩
  · rintro ρ' S' ⟨v2, v3, v4, v5, v6, v7, v8, v9, v10, v11, v12, v13, v14, v15, v16, v17, v18, v19, rfl, S, tp, rfl, tO⟩
    walk_at "d"
    refine ⟨true, [⟨0, 0, false⟩], rfl, by decide, okSh_st (okSh_le (f := true) (by decide +kernel) (by decide +kernel) (by decide)), ?_⟩
    rw [show fwM true [⟨0, 0, false⟩] = some 0 from by decide +kernel]
    walk_at "d"
    refine ⟨true, [⟨0, 0, true⟩], rfl, okSh_le (by decide +kernel) (by decide +kernel) (by decide), ?_⟩
    rw [show cntM true [⟨0, 0, true⟩] = 1 from by decide +kernel]
    walk_at "d"
    exact Leave.now (q _)
end
/-! ### what the top has written, and the end -/
theorem all_mk {P : Program} {w : World} {K : PySem.W.Frag} {h : Heap} {mg : Str → Option Value} {fa : Addr} (X : K.In h) (G : h.Ns mainGlobals mg) (hfa : mg "law" = some (.ref fa))
    {f0 : Addr} {od0 an0 : Option Addr} {sl0 : Array (Option Value)} {oc0 kV0 dc0 pm0 cd0 ct0 : Value} {f1 : Addr} {od1 an1 : Option Addr} {sl1 : Array (Option Value)} {oc1 kV1 dc1 pm1 cd1 ct1 : Value} {f2 : Addr} {od2 an2 : Option Addr} {sl2 : Array (Option Value)} {oc2 kV2 dc2 pm2 cd2 ct2 : Value} {f3 : Addr} {od3 an3 : Option Addr} {sl3 : Array (Option Value)} {oc3 kV3 dc3 pm3 cd3 ct3 : Value} {f4 : Addr} {od4 an4 : Option Addr} {sl4 : Array (Option Value)} {oc4 kV4 dc4 pm4 cd4 ct4 : Value} {f5 : Addr} {od5 an5 : Option Addr} {sl5 : Array (Option Value)} {oc5 kV5 dc5 pm5 cd5 ct5 : Value} {f6 : Addr} {od6 an6 : Option Addr} {sl6 : Array (Option Value)} {oc6 kV6 dc6 pm6 cd6 ct6 : Value} {f7 : Addr} {od7 an7 : Option Addr} {sl7 : Array (Option Value)} {oc7 kV7 dc7 pm7 cd7 ct7 : Value} {f8 : Addr} {od8 an8 : Option Addr} {sl8 : Array (Option Value)} {oc8 kV8 dc8 pm8 cd8 ct8 : Value} {f9 : Addr} {od9 an9 : Option Addr} {sl9 : Array (Option Value)} {oc9 kV9 dc9 pm9 cd9 ct9 : Value} {f10 : Addr} {od10 an10 : Option Addr} {sl10 : Array (Option Value)} {oc10 kV10 dc10 pm10 cd10 ct10 : Value} {f11 : Addr} {od11 an11 : Option Addr} {sl11 : Array (Option Value)} {oc11 kV11 dc11 pm11 cd11 ct11 : Value} {f12 : Addr} {od12 an12 : Option Addr} {sl12 : Array (Option Value)} {oc12 kV12 dc12 pm12 cd12 ct12 : Value} {f13 : Addr} {od13 an13 : Option Addr} {sl13 : Array (Option Value)} {oc13 kV13 dc13 pm13 cd13 ct13 : Value} {f14 : Addr} {od14 an14 : Option Addr} {sl14 : Array (Option Value)} {oc14 kV14 dc14 pm14 cd14 ct14 : Value} {f15 : Addr} {od15 an15 : Option Addr} {sl15 : Array (Option Value)} {oc15 kV15 dc15 pm15 cd15 ct15 : Value} {f16 : Addr} {od16 an16 : Option Addr} {sl16 : Array (Option Value)} {oc16 kV16 dc16 pm16 cd16 ct16 : Value} {f17 : Addr} {od17 an17 : Option Addr} {sl17 : Array (Option Value)} {oc17 kV17 dc17 pm17 cd17 ct17 : Value} {f18 : Addr} {od18 an18 : Option Addr} {sl18 : Array (Option Value)} {oc18 kV18 dc18 pm18 cd18 ct18 : Value} {f19 : Addr} {od19 an19 : Option Addr} {sl19 : Array (Option Value)} {oc19 kV19 dc19 pm19 cd19 ct19 : Value}  
    (a0 : PySem.W.nsIn K mainGlobals "choices" = some (some (.ref f0))) (l0 : K.lookup f0 = some ⟨oc0, od0, .func (PySem.W.fnOf "choices" "choices" (defArgs s_choices) (defBody s_choices) (defScope s_choices) .none kV0 dc0 pm0 an0 cd0 ct0), sl0⟩) (c0 : PySem.W.codeIn K cd0 "choices" = true) (k0 : PySem.W.keepIn K (.ref f0) = true)
    (a1 : PySem.W.nsIn K mainGlobals "change_choices" = some (some (.ref f1))) (l1 : K.lookup f1 = some ⟨oc1, od1, .func (PySem.W.fnOf "change_choices" "change_choices" (defArgs s_change_choices) (defBody s_change_choices) (defScope s_change_choices) .none kV1 dc1 pm1 an1 cd1 ct1), sl1⟩) (c1 : PySem.W.codeIn K cd1 "change_choices" = true) (k1 : PySem.W.keepIn K (.ref f1) = true)
    (a2 : PySem.W.nsIn K mainGlobals "rotations_after" = some (some (.ref f2))) (l2 : K.lookup f2 = some ⟨oc2, od2, .func (PySem.W.fnOf "rotations_after" "rotations_after" (defArgs s_rotations_after) (defBody s_rotations_after) (defScope s_rotations_after) .none kV2 dc2 pm2 an2 cd2 ct2), sl2⟩) (c2 : PySem.W.codeIn K cd2 "rotations_after" = true) (k2 : PySem.W.keepIn K (.ref f2) = true)
    (a3 : PySem.W.nsIn K mainGlobals "steps" = some (some (.ref f3))) (l3 : K.lookup f3 = some ⟨oc3, od3, .func (PySem.W.fnOf "steps" "steps" (defArgs s_steps) (defBody s_steps) (defScope s_steps) .none kV3 dc3 pm3 an3 cd3 ct3), sl3⟩) (c3 : PySem.W.codeIn K cd3 "steps" = true) (k3 : PySem.W.keepIn K (.ref f3) = true)
    (a4 : PySem.W.nsIn K mainGlobals "all_choices" = some (some (.ref f4))) (l4 : K.lookup f4 = some ⟨oc4, od4, .func (PySem.W.fnOf "all_choices" "all_choices" (defArgs s_all_choices) (defBody s_all_choices) (defScope s_all_choices) .none kV4 dc4 pm4 an4 cd4 ct4), sl4⟩) (c4 : PySem.W.codeIn K cd4 "all_choices" = true) (k4 : PySem.W.keepIn K (.ref f4) = true)
    (a5 : PySem.W.nsIn K mainGlobals "first_wrong" = some (some (.ref f5))) (l5 : K.lookup f5 = some ⟨oc5, od5, .func (PySem.W.fnOf "first_wrong" "first_wrong" (defArgs s_first_wrong) (defBody s_first_wrong) (defScope s_first_wrong) .none kV5 dc5 pm5 an5 cd5 ct5), sl5⟩) (c5 : PySem.W.codeIn K cd5 "first_wrong" = true) (k5 : PySem.W.keepIn K (.ref f5) = true)
    (a6 : PySem.W.nsIn K mainGlobals "fits" = some (some (.ref f6))) (l6 : K.lookup f6 = some ⟨oc6, od6, .func (PySem.W.fnOf "fits" "fits" (defArgs s_fits) (defBody s_fits) (defScope s_fits) .none kV6 dc6 pm6 an6 cd6 ct6), sl6⟩) (c6 : PySem.W.codeIn K cd6 "fits" = true) (k6 : PySem.W.keepIn K (.ref f6) = true)
    (a7 : PySem.W.nsIn K mainGlobals "count_sheet" = some (some (.ref f7))) (l7 : K.lookup f7 = some ⟨oc7, od7, .func (PySem.W.fnOf "count_sheet" "count_sheet" (defArgs s_count_sheet) (defBody s_count_sheet) (defScope s_count_sheet) .none kV7 dc7 pm7 an7 cd7 ct7), sl7⟩) (c7 : PySem.W.codeIn K cd7 "count_sheet" = true) (k7 : PySem.W.keepIn K (.ref f7) = true)
    (a8 : PySem.W.nsIn K mainGlobals "change_ranges" = some (some (.ref f8))) (l8 : K.lookup f8 = some ⟨oc8, od8, .func (PySem.W.fnOf "change_ranges" "change_ranges" (defArgs s_change_ranges) (defBody s_change_ranges) (defScope s_change_ranges) .none kV8 dc8 pm8 an8 cd8 ct8), sl8⟩) (c8 : PySem.W.codeIn K cd8 "change_ranges" = true) (k8 : PySem.W.keepIn K (.ref f8) = true)
    (a9 : PySem.W.nsIn K mainGlobals "rotations_at" = some (some (.ref f9))) (l9 : K.lookup f9 = some ⟨oc9, od9, .func (PySem.W.fnOf "rotations_at" "rotations_at" (defArgs s_rotations_at) (defBody s_rotations_at) (defScope s_rotations_at) .none kV9 dc9 pm9 an9 cd9 ct9), sl9⟩) (c9 : PySem.W.codeIn K cd9 "rotations_at" = true) (k9 : PySem.W.keepIn K (.ref f9) = true)
    (a10 : PySem.W.nsIn K mainGlobals "_law_draw" = some (some (.ref f10))) (l10 : K.lookup f10 = some ⟨oc10, od10, .func (PySem.W.fnOf "_law_draw" "_law_draw" (defArgs s__law_draw) (defBody s__law_draw) (defScope s__law_draw) .none kV10 dc10 pm10 an10 cd10 ct10), sl10⟩) (c10 : PySem.W.codeIn K cd10 "_law_draw" = true) (k10 : PySem.W.keepIn K (.ref f10) = true)
    (a11 : PySem.W.nsIn K mainGlobals "_law_like" = some (some (.ref f11))) (l11 : K.lookup f11 = some ⟨oc11, od11, .func (PySem.W.fnOf "_law_like" "_law_like" (defArgs s__law_like) (defBody s__law_like) (defScope s__law_like) .none kV11 dc11 pm11 an11 cd11 ct11), sl11⟩) (c11 : PySem.W.codeIn K cd11 "_law_like" = true) (k11 : PySem.W.keepIn K (.ref f11) = true)
    (a12 : PySem.W.nsIn K mainGlobals "_law_side" = some (some (.ref f12))) (l12 : K.lookup f12 = some ⟨oc12, od12, .func (PySem.W.fnOf "_law_side" "_law_side" (defArgs s__law_side) (defBody s__law_side) (defScope s__law_side) .none kV12 dc12 pm12 an12 cd12 ct12), sl12⟩) (c12 : PySem.W.codeIn K cd12 "_law_side" = true) (k12 : PySem.W.keepIn K (.ref f12) = true)
    (a13 : PySem.W.nsIn K mainGlobals "_law_far" = some (some (.ref f13))) (l13 : K.lookup f13 = some ⟨oc13, od13, .func (PySem.W.fnOf "_law_far" "_law_far" (defArgs s__law_far) (defBody s__law_far) (defScope s__law_far) .none kV13 dc13 pm13 an13 cd13 ct13), sl13⟩) (c13 : PySem.W.codeIn K cd13 "_law_far" = true) (k13 : PySem.W.keepIn K (.ref f13) = true)
    (a14 : PySem.W.nsIn K mainGlobals "_law_sizes" = some (some (.ref f14))) (l14 : K.lookup f14 = some ⟨oc14, od14, .func (PySem.W.fnOf "_law_sizes" "_law_sizes" (defArgs s__law_sizes) (defBody s__law_sizes) (defScope s__law_sizes) .none kV14 dc14 pm14 an14 cd14 ct14), sl14⟩) (c14 : PySem.W.codeIn K cd14 "_law_sizes" = true) (k14 : PySem.W.keepIn K (.ref f14) = true)
    (a15 : PySem.W.nsIn K mainGlobals "_law_now" = some (some (.ref f15))) (l15 : K.lookup f15 = some ⟨oc15, od15, .func (PySem.W.fnOf "_law_now" "_law_now" (defArgs s__law_now) (defBody s__law_now) (defScope s__law_now) .none kV15 dc15 pm15 an15 cd15 ct15), sl15⟩) (c15 : PySem.W.codeIn K cd15 "_law_now" = true) (k15 : PySem.W.keepIn K (.ref f15) = true)
    (a16 : PySem.W.nsIn K mainGlobals "_law_all" = some (some (.ref f16))) (l16 : K.lookup f16 = some ⟨oc16, od16, .func (PySem.W.fnOf "_law_all" "_law_all" (defArgs s__law_all) (defBody s__law_all) (defScope s__law_all) .none kV16 dc16 pm16 an16 cd16 ct16), sl16⟩) (c16 : PySem.W.codeIn K cd16 "_law_all" = true) (k16 : PySem.W.keepIn K (.ref f16) = true)
    (a17 : PySem.W.nsIn K mainGlobals "_law_sheet" = some (some (.ref f17))) (l17 : K.lookup f17 = some ⟨oc17, od17, .func (PySem.W.fnOf "_law_sheet" "_law_sheet" (defArgs s__law_sheet) (defBody s__law_sheet) (defScope s__law_sheet) .none kV17 dc17 pm17 an17 cd17 ct17), sl17⟩) (c17 : PySem.W.codeIn K cd17 "_law_sheet" = true) (k17 : PySem.W.keepIn K (.ref f17) = true)
    (a18 : PySem.W.nsIn K mainGlobals "_law_fitting" = some (some (.ref f18))) (l18 : K.lookup f18 = some ⟨oc18, od18, .func (PySem.W.fnOf "_law_fitting" "_law_fitting" (defArgs s__law_fitting) (defBody s__law_fitting) (defScope s__law_fitting) .none kV18 dc18 pm18 an18 cd18 ct18), sl18⟩) (c18 : PySem.W.codeIn K cd18 "_law_fitting" = true) (k18 : PySem.W.keepIn K (.ref f18) = true)
    (a19 : PySem.W.nsIn K mainGlobals "law" = some (some (.ref f19))) (l19 : K.lookup f19 = some ⟨oc19, od19, .func (PySem.W.fnOf "law" "law" (defArgs s_law) (defBody s_law) (defScope s_law) .none kV19 dc19 pm19 an19 cd19 ct19), sl19⟩) (c19 : PySem.W.codeIn K cd19 "law" = true) (k19 : PySem.W.keepIn K (.ref f19) = true)
    (z_len : PySem.W.nsIn K mainGlobals "len" = some none)
    (z_range : PySem.W.nsIn K mainGlobals "range" = some none)
    (z_int : PySem.W.nsIn K mainGlobals "int" = some none)
    (z_max : PySem.W.nsIn K mainGlobals "max" = some none)
    (z_min : PySem.W.nsIn K mainGlobals "min" = some none)
    (z_abs : PySem.W.nsIn K mainGlobals "abs" = some none)
    (z_sum : PySem.W.nsIn K mainGlobals "sum" = some none)
    (z_all : PySem.W.nsIn K mainGlobals "all" = some none)
    (z_list : PySem.W.nsIn K mainGlobals "list" = some none)
    (z_tuple : PySem.W.nsIn K mainGlobals "tuple" = some none)
    (z_sorted : PySem.W.nsIn K mainGlobals "sorted" = some none)
    (z_isinstance : PySem.W.nsIn K mainGlobals "isinstance" = some none)
    (z_zip : PySem.W.nsIn K mainGlobals "zip" = some none)
    (z_enumerate : PySem.W.nsIn K mainGlobals "enumerate" = some none)
    (z_set : PySem.W.nsIn K mainGlobals "set" = some none)
    (z_str : PySem.W.nsIn K mainGlobals "str" = some none)
    (z_bool : PySem.W.nsIn K mainGlobals "bool" = some none) :
    ∃ fd : FuncData, (∀ (s : Shared) (v : Value), BindsTo s fd ⟨[v], []⟩ [("script", v)]) ∧ ∀ base : Heap, K.In base → base.Ns mainGlobals mg → FnOk P w K mg base CX0 7 fa fd ["script"] (spLaw K) := by
  have B : Bts mg := ⟨PySem.W.mg_none_of X G z_len, PySem.W.mg_none_of X G z_range, PySem.W.mg_none_of X G z_int, PySem.W.mg_none_of X G z_max, PySem.W.mg_none_of X G z_min, PySem.W.mg_none_of X G z_abs, PySem.W.mg_none_of X G z_sum, PySem.W.mg_none_of X G z_all, PySem.W.mg_none_of X G z_list, PySem.W.mg_none_of X G z_tuple, PySem.W.mg_none_of X G z_sorted, PySem.W.mg_none_of X G z_isinstance, PySem.W.mg_none_of X G z_zip, PySem.W.mg_none_of X G z_enumerate, PySem.W.mg_none_of X G z_set, PySem.W.mg_none_of X G z_str, PySem.W.mg_none_of X G z_bool⟩
  have D_choices : FunD K mg "choices" s_choices ["many", "some"] := ⟨f0, _, fun_mk (st := s_choices) l0 c0 k0, PySem.W.mg_of X G a0, (fun_mk (st := s_choices) l0 c0 k0).binds (ps := ["many", "some"]) fun _ _ _ _ _ _ us hl => match us, hl with | [_, _], _ => rfl⟩
  have D_change_choices : FunD K mg "change_choices" s_change_choices ["serving", "one", "other", "later"] := ⟨f1, _, fun_mk (st := s_change_choices) l1 c1 k1, PySem.W.mg_of X G a1, (fun_mk (st := s_change_choices) l1 c1 k1).binds (ps := ["serving", "one", "other", "later"]) fun _ _ _ _ _ _ us hl => match us, hl with | [_, _, _, _], _ => rfl⟩
  have D_rotations_after : FunD K mg "rotations_after" s_rotations_after ["first", "number"] := ⟨f2, _, fun_mk (st := s_rotations_after) l2 c2 k2, PySem.W.mg_of X G a2, (fun_mk (st := s_rotations_after) l2 c2 k2).binds (ps := ["first", "number"]) fun _ _ _ _ _ _ us hl => match us, hl with | [_, _], _ => rfl⟩
  have D_steps : FunD K mg "steps" s_steps ["first", "sheet"] := ⟨f3, _, fun_mk (st := s_steps) l3 c3 k3, PySem.W.mg_of X G a3, (fun_mk (st := s_steps) l3 c3 k3).binds (ps := ["first", "sheet"]) fun _ _ _ _ _ _ us hl => match us, hl with | [_, _], _ => rfl⟩
  have D_all_choices : FunD K mg "all_choices" s_all_choices ["first", "sheet"] := ⟨f4, _, fun_mk (st := s_all_choices) l4 c4 k4, PySem.W.mg_of X G a4, (fun_mk (st := s_all_choices) l4 c4 k4).binds (ps := ["first", "sheet"]) fun _ _ _ _ _ _ us hl => match us, hl with | [_, _], _ => rfl⟩
  have D_first_wrong : FunD K mg "first_wrong" s_first_wrong ["first", "sheet"] := ⟨f5, _, fun_mk (st := s_first_wrong) l5 c5 k5, PySem.W.mg_of X G a5, (fun_mk (st := s_first_wrong) l5 c5 k5).binds (ps := ["first", "sheet"]) fun _ _ _ _ _ _ us hl => match us, hl with | [_, _], _ => rfl⟩
  have D_fits : FunD K mg "fits" s_fits ["first", "sheet"] := ⟨f6, _, fun_mk (st := s_fits) l6 c6 k6, PySem.W.mg_of X G a6, (fun_mk (st := s_fits) l6 c6 k6).binds (ps := ["first", "sheet"]) fun _ _ _ _ _ _ us hl => match us, hl with | [_, _], _ => rfl⟩
  have D_count_sheet : FunD K mg "count_sheet" s_count_sheet ["first", "sheet"] := ⟨f7, _, fun_mk (st := s_count_sheet) l7 c7 k7, PySem.W.mg_of X G a7, (fun_mk (st := s_count_sheet) l7 c7 k7).binds (ps := ["first", "sheet"]) fun _ _ _ _ _ _ us hl => match us, hl with | [_, _], _ => rfl⟩
  have D_change_ranges : FunD K mg "change_ranges" s_change_ranges ["first", "sheet"] := ⟨f8, _, fun_mk (st := s_change_ranges) l8 c8 k8, PySem.W.mg_of X G a8, (fun_mk (st := s_change_ranges) l8 c8 k8).binds (ps := ["first", "sheet"]) fun _ _ _ _ _ _ us hl => match us, hl with | [_, _], _ => rfl⟩
  have D_rotations_at : FunD K mg "rotations_at" s_rotations_at ["sizes", "first", "sheet", "index"] := ⟨f9, _, fun_mk (st := s_rotations_at) l9 c9 k9, PySem.W.mg_of X G a9, (fun_mk (st := s_rotations_at) l9 c9 k9).binds (ps := ["sizes", "first", "sheet", "index"]) fun _ _ _ _ _ _ us hl => match us, hl with | [_, _, _, _], _ => rfl⟩
  have D__law_draw : FunD K mg "_law_draw" s__law_draw ["tape", "many"] := ⟨f10, _, fun_mk (st := s__law_draw) l10 c10 k10, PySem.W.mg_of X G a10, (fun_mk (st := s__law_draw) l10 c10 k10).binds (ps := ["tape", "many"]) fun _ _ _ _ _ _ us hl => match us, hl with | [_, _], _ => rfl⟩
  have D__law_like : FunD K mg "_law_like" s__law_like ["one", "two"] := ⟨f11, _, fun_mk (st := s__law_like) l11 c11 k11, PySem.W.mg_of X G a11, (fun_mk (st := s__law_like) l11 c11 k11).binds (ps := ["one", "two"]) fun _ _ _ _ _ _ us hl => match us, hl with | [_, _], _ => rfl⟩
  have D__law_side : FunD K mg "_law_side" s__law_side ["tape"] := ⟨f12, _, fun_mk (st := s__law_side) l12 c12 k12, PySem.W.mg_of X G a12, (fun_mk (st := s__law_side) l12 c12 k12).binds (ps := ["tape"]) fun _ _ _ _ _ _ us hl => match us, hl with | [_], _ => rfl⟩
  have D__law_far : FunD K mg "_law_far" s__law_far ["side"] := ⟨f13, _, fun_mk (st := s__law_far) l13 c13 k13, PySem.W.mg_of X G a13, (fun_mk (st := s__law_far) l13 c13 k13).binds (ps := ["side"]) fun _ _ _ _ _ _ us hl => match us, hl with | [_], _ => rfl⟩
  have D__law_sizes : FunD K mg "_law_sizes" s__law_sizes ["tape"] := ⟨f14, _, fun_mk (st := s__law_sizes) l14 c14 k14, PySem.W.mg_of X G a14, (fun_mk (st := s__law_sizes) l14 c14 k14).binds (ps := ["tape"]) fun _ _ _ _ _ _ us hl => match us, hl with | [_], _ => rfl⟩
  have D__law_now : FunD K mg "_law_now" s__law_now ["first", "text"] := ⟨f15, _, fun_mk (st := s__law_now) l15 c15 k15, PySem.W.mg_of X G a15, (fun_mk (st := s__law_now) l15 c15 k15).binds (ps := ["first", "text"]) fun _ _ _ _ _ _ us hl => match us, hl with | [_, _], _ => rfl⟩
  have D__law_all : FunD K mg "_law_all" s__law_all ["size"] := ⟨f16, _, fun_mk (st := s__law_all) l16 c16 k16, PySem.W.mg_of X G a16, (fun_mk (st := s__law_all) l16 c16 k16).binds (ps := ["size"]) fun _ _ _ _ _ _ us hl => match us, hl with | [_], _ => rfl⟩
  have D__law_sheet : FunD K mg "_law_sheet" s__law_sheet ["tape", "first", "text", "most"] := ⟨f17, _, fun_mk (st := s__law_sheet) l17 c17 k17, PySem.W.mg_of X G a17, (fun_mk (st := s__law_sheet) l17 c17 k17).binds (ps := ["tape", "first", "text", "most"]) fun _ _ _ _ _ _ us hl => match us, hl with | [_, _, _, _], _ => rfl⟩
  have D__law_fitting : FunD K mg "_law_fitting" s__law_fitting ["first", "sheet"] := ⟨f18, _, fun_mk (st := s__law_fitting) l18 c18 k18, PySem.W.mg_of X G a18, (fun_mk (st := s__law_fitting) l18 c18 k18).binds (ps := ["first", "sheet"]) fun _ _ _ _ _ _ us hl => match us, hl with | [_, _], _ => rfl⟩
  have e := hfa.symm.trans (PySem.W.mg_of X G a19)
  cases e
  refine ⟨PySem.W.fnOf "law" "law" (defArgs s_law) (defBody s_law) (defScope s_law) .none kV19 dc19 pm19 an19 cd19 ct19, fun s v => .of_eq rfl, fun base _ _ => law_imp ?_⟩
  have O_rotations_after : FnD P w K mg base 1 "rotations_after" sp_rotations_after := ok_rotations_after B D_rotations_after
  have O_choices : FnD P w K mg base 1 "choices" sp_choices := ok_choices B D_choices
  have O_change_choices : FnD P w K mg base 1 "change_choices" sp_change_choices := ok_change_choices B D_change_choices
  have O_steps : FnD P w K mg base 1 "steps" sp_steps := ok_steps B D_steps
  have O_all_choices : FnD P w K mg base 2 "all_choices" sp_all_choices := ok_all_choices B D_all_choices O_change_choices O_steps
  have O_first_wrong : FnD P w K mg base 3 "first_wrong" sp_first_wrong := ok_first_wrong B D_first_wrong O_all_choices
  have O_fits : FnD P w K mg base 4 "fits" sp_fits := ok_fits B D_fits O_first_wrong
  have O_count_sheet : FnD P w K mg base 5 "count_sheet" sp_count_sheet := ok_count_sheet B D_count_sheet O_choices O_fits O_steps
  have O_change_ranges : FnD P w K mg base 5 "change_ranges" sp_change_ranges := ok_change_ranges B D_change_ranges O_all_choices O_fits
  have O_rotations_at : FnD P w K mg base 6 "rotations_at" sp_rotations_at := ok_rotations_at B D_rotations_at O_change_ranges O_fits O_rotations_after
  have O__law_draw : FnD P w K mg base 1 "_law_draw" sp_l_draw := ok__law_draw B D__law_draw
  have O__law_like : FnD P w K mg base 5 "_law_like" sp_l_like := ok__law_like B D__law_like
  have O__law_side : FnD P w K mg base 2 "_law_side" sp_l_side := ok__law_side B D__law_side O__law_draw
  have O__law_far : FnD P w K mg base 1 "_law_far" sp_l_far := ok__law_far B D__law_far
  have O__law_sizes : FnD P w K mg base 2 "_law_sizes" sp_l_sizes := ok__law_sizes B D__law_sizes O__law_draw
  have O__law_now : FnD P w K mg base 1 "_law_now" sp_l_now := ok__law_now B D__law_now
  have O__law_all : FnD P w K mg base 1 "_law_all" sp_l_all := ok__law_all B D__law_all
  have O__law_sheet : FnD P w K mg base 2 "_law_sheet" sp_l_sheet := ok__law_sheet B D__law_sheet O__law_draw O__law_far O__law_now
  have O__law_fitting : FnD P w K mg base 2 "_law_fitting" sp_l_fitting := ok__law_fitting B D__law_fitting O__law_all O__law_now
  exact okLaw B  (fun_mk (st := s_law) l19 c19 k19) O__law_draw O__law_fitting O__law_like O__law_now O__law_sheet O__law_side O__law_sizes O_change_ranges O_count_sheet O_first_wrong O_fits O_rotations_at
end K
open PySem PySem.W PyProof.Rows in
set_option maxRecDepth 100000 in
set_option maxHeartbeats 0 in
theorem PySem.Challenge.cw_sideouts_k11_whole_sheets_of_few_rallies_holds : PySem.Challenge.rw_sideouts_k11_whole_sheets_of_few_rallies.Holds := by
  w_on; o_law; k_head; (case hw => w_witness2)
  k_fill
  refine L2.walk_of (l := PySem.Challenge.rw_sideouts_k11_whole_sheets_of_few_rallies) (n := 63) (k := 7) (x := "script") (CX := fun _ => L2.CX0) (sp := fun w => DL.spLaw _) rfl (by decide) rfl ⟨rfl, by decide, by decide⟩ (fun w h Y => PySem.W.kIn_of Y) ?F (fun _ _ a ns hl _ hS => ⟨a, ns, rfl, hS, hl, fun _ => rfl⟩) (fun _ _ _ _ _ h => h)
  case F =>
    intro w mg fa h KX G hmg
    refine' K.all_mk KX G hmg ?a0 ?l0 ?c0 ?k0 ?a1 ?l1 ?c1 ?k1 ?a2 ?l2 ?c2 ?k2 ?a3 ?l3 ?c3 ?k3 ?a4 ?l4 ?c4 ?k4 ?a5 ?l5 ?c5 ?k5 ?a6 ?l6 ?c6 ?k6 ?a7 ?l7 ?c7 ?k7 ?a8 ?l8 ?c8 ?k8 ?a9 ?l9 ?c9 ?k9 ?a10 ?l10 ?c10 ?k10 ?a11 ?l11 ?c11 ?k11 ?a12 ?l12 ?c12 ?k12 ?a13 ?l13 ?c13 ?k13 ?a14 ?l14 ?c14 ?k14 ?a15 ?l15 ?c15 ?k15 ?a16 ?l16 ?c16 ?k16 ?a17 ?l17 ?c17 ?k17 ?a18 ?l18 ?c18 ?k18 ?a19 ?l19 ?c19 ?k19 ?z_len ?z_range ?z_int ?z_max ?z_min ?z_abs ?z_sum ?z_all ?z_list ?z_tuple ?z_sorted ?z_isinstance ?z_zip ?z_enumerate ?z_set ?z_str ?z_bool
    (case a0 => k_is)
    (case l0 => k_is)
    (case c0 => k_is)
    (case k0 => k_is)
    (case a1 => k_is)
    (case l1 => k_is)
    (case c1 => k_is)
    (case k1 => k_is)
    (case a2 => k_is)
    (case l2 => k_is)
    (case c2 => k_is)
    (case k2 => k_is)
    (case a3 => k_is)
    (case l3 => k_is)
    (case c3 => k_is)
    (case k3 => k_is)
    (case a4 => k_is)
    (case l4 => k_is)
    (case c4 => k_is)
    (case k4 => k_is)
    (case a5 => k_is)
    (case l5 => k_is)
    (case c5 => k_is)
    (case k5 => k_is)
    (case a6 => k_is)
    (case l6 => k_is)
    (case c6 => k_is)
    (case k6 => k_is)
    (case a7 => k_is)
    (case l7 => k_is)
    (case c7 => k_is)
    (case k7 => k_is)
    (case a8 => k_is)
    (case l8 => k_is)
    (case c8 => k_is)
    (case k8 => k_is)
    (case a9 => k_is)
    (case l9 => k_is)
    (case c9 => k_is)
    (case k9 => k_is)
    (case a10 => k_is)
    (case l10 => k_is)
    (case c10 => k_is)
    (case k10 => k_is)
    (case a11 => k_is)
    (case l11 => k_is)
    (case c11 => k_is)
    (case k11 => k_is)
    (case a12 => k_is)
    (case l12 => k_is)
    (case c12 => k_is)
    (case k12 => k_is)
    (case a13 => k_is)
    (case l13 => k_is)
    (case c13 => k_is)
    (case k13 => k_is)
    (case a14 => k_is)
    (case l14 => k_is)
    (case c14 => k_is)
    (case k14 => k_is)
    (case a15 => k_is)
    (case l15 => k_is)
    (case c15 => k_is)
    (case k15 => k_is)
    (case a16 => k_is)
    (case l16 => k_is)
    (case c16 => k_is)
    (case k16 => k_is)
    (case a17 => k_is)
    (case l17 => k_is)
    (case c17 => k_is)
    (case k17 => k_is)
    (case a18 => k_is)
    (case l18 => k_is)
    (case c18 => k_is)
    (case k18 => k_is)
    (case a19 => k_is)
    (case l19 => k_is)
    (case c19 => k_is)
    (case k19 => k_is)
    (case z_len => k_is)
    (case z_range => k_is)
    (case z_int => k_is)
    (case z_max => k_is)
    (case z_min => k_is)
    (case z_abs => k_is)
    (case z_sum => k_is)
    (case z_all => k_is)
    (case z_list => k_is)
    (case z_tuple => k_is)
    (case z_sorted => k_is)
    (case z_isinstance => k_is)
    (case z_zip => k_is)
    (case z_enumerate => k_is)
    (case z_set => k_is)
    (case z_str => k_is)
    (case z_bool => k_is)
