import PyProof.Rows.All
import Wide.All
import OpenK.AllK
import Wide.FinOn
import HandS.ForExc
import HandS.Comp
import HandS.Iter
import HandS.Slots
import HandS.WideBits
import HandS.Gcd
import HandS.TupAny
import HandS.Flow
import HandS.Deep
import HandS.Style
import HandS.IsInst
import HandS.Zip
import KE.GoesEnum
import PyProof.DictMoreH
import HandS.Dict
import HandS.DictTup
import HandS.SetKeys
import HandS.Defaults
import HandS.CallSlots
import HandS.ExcOwn
import HandS.ExcCtx
import HandS.MakeKw
import HandS.MakeKwOnly
import HandS.SuiteRaise
import HandS.TryMany
import KE.KExcIs
import HandS.ExcField
import HandS.ExcInit
import HandS.ExcInitHot
import HandS.RaiseFrom
import HandS.ExcIs
import HandS.EndBits
import HandS.HeadEnd
import HandS.HeadHook4
import HandS.AnyAll
import KE.KStateDown
import HandS.Head0
import HandS.Head1
import HandS.Head2
import HandS.HeadHook1
import HandS.HeadHook2
import PySem.Challenge.RW_copiedby_k81_prizes_by_number_and_counts
set_option Elab.async false
set_option autoImplicit false
set_option linter.all false
set_option maxRecDepth 100000
set_option maxHeartbeats 0
/-! The Cb layer, part 1: data trees, the abstract heap of mutable lists, how both stand in the layer's heap. -/
namespace Cb
open PySem L2

/-- data as a tree; `ref k`: the mutable list or dict number k of the abstract heap; `obj c l`: an instance of the class number c, its slots; `fix l`: the script -/
inductive D where
  | non | bl (b : Bool) | int (i : Int) | str (x : Str) | tup (l : List D) | lst (l : List D) | ref (k : Nat) | obj (c : Nat) (l : List D) | fix (l : List Int)
  deriving Inhabited
/-- a mutable thing -/
inductive Cell where
  | vals (l : List D) | dK (kvs : List (Key × D)) | dT (kvs : List (List Key × D))
  deriving Inhabited
abbrev AH := List Cell
abbrev En := List (Option D)
inductive Res (α : Type) where
  | stuck | ok (a : α) (h : AH) | exc (c : Nat) (d : D) (h : AH)
def Res.bind {α β : Type} : Res α → (α → AH → Res β) → Res β
  | .stuck, _ => .stuck
  | .ok a h, k => k a h
  | .exc c d h, _ => .exc c d h

/-- the class table: instances' classes; errors' classes and the one field of each; ks: the errors' numbers -/
structure Tab where
  K : PySem.W.Frag
  cls : Nat → Addr
  err : Nat → Addr
  fld : Nat → Str
  ks : List Nat

mutual
/-- the value v is the datum d; T: lists under way, m: the places of the mutable ones -/
inductive Rep (B : Tab) (T m : List Addr) (H : Hp) : D → V → Prop
  | non : Rep B T m H .non .non
  | bl (b : Bool) : Rep B T m H (.bl b) (.bl b)
  | int (i : Int) : Rep B T m H (.int i) (.int i)
  | str (x : Str) : Rep B T m H (.str x) (.str x)
  | tup {ds : List D} {a : Addr} {xs : List V} : a ∉ m → a ∉ T → H a = some (.tup xs) → Reps B T m H ds xs → Rep B T m H (.tup ds) (.ref a)
  | lst {ds : List D} {a : Addr} {xs : List V} : a ∉ m → a ∉ T → H a = some (.lst xs) → Reps B T m H ds xs → Rep B T m H (.lst ds) (.ref a)
  | fix {l : List Int} {a : Addr} : ((a ∉ m ∧ a ∉ T ∧ Rd H a (.lst (l.map V.int))) ∨ ∃ (o : Obj) (its : Array Value) (n : Nat), B.K.lookup a = some o ∧ o.cls = .type "list" ∧ o.dict = none ∧ o.data = .seq its n ∧ its.size ≤ sizeLine ∧ Vals (l.map V.int) its.toList) → Rep B T m H (.fix l) (.ref a)
  | ref {k : Nat} {a : Addr} : m[k]? = some a → Rep B T m H (.ref k) (.ref a)
  | obj {c : Nat} {ds : List D} {a dx : Addr} {xs : List V} : a ∉ m → a ∉ T → dx ∉ m → dx ∉ T → dx ≠ a → H a = some (SlX.SlO a (B.cls c) dx (xs.map some)) → H dx = some (.xd []) → Reps B T m H ds xs → Rep B T m H (.obj c ds) (.ref a)
inductive Reps (B : Tab) (T m : List Addr) (H : Hp) : List D → List V → Prop
  | nil : Reps B T m H [] []
  | cons {d : D} {ds : List D} {x : V} {xs : List V} : Rep B T m H d x → Reps B T m H ds xs → Reps B T m H (d :: ds) (x :: xs)
end

/-- what a step may do: mutable things change, new ones come, all else stays -/
structure Ext (m : List Addr) (H : Hp) (m' : List Addr) (H' : Hp) : Prop where
  pre : ∃ l, m' = m ++ l ∧ ∀ a ∈ l, H a = none
  keep : ∀ a o, a ∉ m → H a = some o → H' a = some o
  dom : ∀ a, H a ≠ none → H' a ≠ none
theorem Ext.refl (m : List Addr) (H : Hp) : Ext m H m H := ⟨⟨[], by simp, by simp⟩, fun _ _ _ h => h, fun _ h => h⟩
theorem Ext.trans {m m1 m2 : List Addr} {H H1 H2 : Hp} (a : Ext m H m1 H1) (b : Ext m1 H1 m2 H2) : Ext m H m2 H2 := by
  obtain ⟨⟨l, e, hl⟩, k, d⟩ := a
  obtain ⟨⟨l2, e2, hl2⟩, k2, d2⟩ := b
  subst e; subst e2
  refine ⟨⟨l ++ l2, by simp, fun x hx => ?_⟩, fun x o hx ho => ?_, fun x hx => d2 x (d x hx)⟩
  · rcases List.mem_append.mp hx with hx | hx
    · exact hl x hx
    · cases q : H x with
      | none => rfl
      | some o => exact absurd (hl2 x hx) (d x (by rw [q]; exact fun z => nomatch z))
  · refine k2 x o (fun z => ?_) (k x o hx ho)
    rcases List.mem_append.mp z with z | z
    · exact hx z
    · rw [hl x z] at ho; cases ho

section
variable {B : Tab} {T m m' : List Addr} {H H' : Hp}
theorem rd_some {a : Addr} {u : HO} (r : Rd H a u) : H a ≠ none := by
  rcases r with r | ⟨o, r⟩ <;> (rw [r]; exact fun z => nomatch z)
theorem Ext.rd (x : Ext m H m' H') {a : Addr} {u : HO} (h : a ∉ m) (r : Rd H a u) : Rd H' a u := by
  rcases r with r | ⟨o, r⟩
  · exact .inl (x.keep _ _ h r)
  · exact .inr ⟨o, x.keep _ _ h r⟩
theorem Ext.out (x : Ext m H m' H') {a : Addr} (h : a ∉ m) (r : H a ≠ none) : a ∉ m' := by
  obtain ⟨⟨l, e, hl⟩, _, _⟩ := x
  subst e
  intro z
  rcases List.mem_append.mp z with z | z
  · exact h z
  · exact r (hl a z)
theorem Ext.at (x : Ext m H m' H') {k : Nat} {a : Addr} (h : m[k]? = some a) : m'[k]? = some a := by
  obtain ⟨⟨l, e, hl⟩, _, _⟩ := x
  subst e
  rw [List.getElem?_append_left]
  · exact h
  · exact (List.getElem?_eq_some_iff.mp h).1
mutual
theorem Rep.mono (x : Ext m H m' H') : ∀ {d : D} {v : V}, Rep B T m H d v → Rep B T m' H' d v
  | _, _, .non => .non
  | _, _, .bl b => .bl b
  | _, _, .int i => .int i
  | _, _, .str s => .str s
  | _, _, .tup h1 h2 r rs => .tup (x.out h1 (by rw [r]; exact fun z => nomatch z)) h2 (x.keep _ _ h1 r) (Reps.mono x rs)
  | _, _, .lst h1 h2 r rs => .lst (x.out h1 (by rw [r]; exact fun z => nomatch z)) h2 (x.keep _ _ h1 r) (Reps.mono x rs)
  | _, _, .fix h => .fix (by
      rcases h with ⟨h1, h2, r⟩ | h
      · exact .inl ⟨x.out h1 (rd_some r), h2, x.rd h1 r⟩
      · exact .inr h)
  | _, _, .ref h => .ref (x.at h)
  | _, _, .obj h1 h2 h3 h4 h5 r1 r2 rs => .obj (x.out h1 (by rw [r1]; exact fun z => nomatch z)) h2 (x.out h3 (by rw [r2]; exact fun z => nomatch z)) h4 h5 (x.keep _ _ h1 r1) (x.keep _ _ h3 r2) (Reps.mono x rs)
theorem Reps.mono (x : Ext m H m' H') : ∀ {ds : List D} {vs : List V}, Reps B T m H ds vs → Reps B T m' H' ds vs
  | _, _, .nil => .nil
  | _, _, .cons r rs => .cons (Rep.mono x r) (Reps.mono x rs)
end
theorem Reps.length : ∀ {ds : List D} {vs : List V}, Reps B T m H ds vs → ds.length = vs.length
  | _, _, .nil => rfl
  | _, _, .cons _ rs => by simp [Reps.length rs]
theorem Reps.get : ∀ {ds : List D} {vs : List V} {i : Nat} {d : D}, Reps B T m H ds vs → ds[i]? = some d → ∃ v, vs[i]? = some v ∧ Rep B T m H d v
  | _, _, _, _, .nil, h => by simp at h
  | _, _, 0, _, .cons r _, h => by simp at h; subst h; exact ⟨_, rfl, r⟩
  | _, _, i + 1, d, .cons _ rs, h => by
    obtain ⟨v, e, r⟩ := Reps.get (i := i) (d := d) rs (by simpa using h)
    exact ⟨v, by simpa using e, r⟩
theorem Reps.no : ∀ {ds : List D} {vs : List V} {i : Nat}, Reps B T m H ds vs → ds[i]? = none → vs[i]? = none := fun {ds vs i} r h => by
  have := r.length
  rw [List.getElem?_eq_none_iff] at h ⊢
  omega
theorem Reps.append : ∀ {ds es : List D} {vs us : List V}, Reps B T m H ds vs → Reps B T m H es us → Reps B T m H (ds ++ es) (vs ++ us)
  | _, _, _, _, .nil, r => r
  | _, _, _, _, .cons r rs, q => .cons r (Reps.append rs q)
theorem Reps.set {d : D} {v : V} (r : Rep B T m H d v) : ∀ {ds : List D} {vs : List V} (i : Nat), Reps B T m H ds vs → Reps B T m H (ds.set i d) (vs.set i v)
  | _, _, _, .nil => .nil
  | _, _, 0, .cons _ rs => .cons r rs
  | _, _, i + 1, .cons q rs => .cons q (Reps.set r i rs)
theorem Reps.take : ∀ {ds : List D} {vs : List V} (n : Nat), Reps B T m H ds vs → Reps B T m H (ds.take n) (vs.take n)
  | _, _, 0, _ => .nil
  | _, _, _ + 1, .nil => .nil
  | _, _, n + 1, .cons r t => .cons r (Reps.take n t)
theorem Reps.drop : ∀ {ds : List D} {vs : List V} (n : Nat), Reps B T m H ds vs → Reps B T m H (ds.drop n) (vs.drop n)
  | _, _, 0, r => r
  | _, _, _ + 1, .nil => .nil
  | _, _, n + 1, .cons _ t => Reps.drop n t
theorem Reps.reverse : ∀ {ds : List D} {vs : List V}, Reps B T m H ds vs → Reps B T m H ds.reverse vs.reverse
  | _, _, .nil => .nil
  | _, _, .cons r t => by rw [List.reverse_cons, List.reverse_cons]; exact (Reps.reverse t).append (.cons r .nil)
theorem Reps.ints : ∀ (l : List Int), Reps B T m H (l.map D.int) (l.map V.int)
  | [] => .nil
  | i :: l => .cons (.int i) (Reps.ints l)
/-- the lists under way: old ones or such as are not there yet -/
def TExt (T : List Addr) (H : Hp) (T' : List Addr) : Prop := ∀ a ∈ T', a ∈ T ∨ H a = none
theorem TExt.refl (T : List Addr) (H : Hp) : TExt T H T := fun _ h => .inl h
theorem TExt.cons {T : List Addr} {H : Hp} {d : Addr} (h : H d = none) : TExt T H (d :: T) := fun a q => by
  rcases List.mem_cons.mp q with q | q
  · subst q; exact .inr h
  · exact .inl q
theorem TExt.out {T T' : List Addr} {H : Hp} {a : Addr} {o : HO} (t : TExt T H T') (h : a ∉ T) (r : H a = some o) : a ∉ T' := fun z => by
  rcases t a z with z | z
  · exact h z
  · rw [r] at z; cases z
mutual
theorem Rep.mv {T T' m m' : List Addr} {H H' : Hp} (x : Ext m H m' H') (t : TExt T H T') : ∀ {d : D} {v : V}, Rep B T m H d v → Rep B T' m' H' d v
  | _, _, .non => .non
  | _, _, .bl b => .bl b
  | _, _, .int i => .int i
  | _, _, .str s => .str s
  | _, _, .tup h1 h2 r rs => .tup (x.out h1 (by rw [r]; exact fun z => nomatch z)) (t.out h2 r) (x.keep _ _ h1 r) (Reps.mv x t rs)
  | _, _, .lst h1 h2 r rs => .lst (x.out h1 (by rw [r]; exact fun z => nomatch z)) (t.out h2 r) (x.keep _ _ h1 r) (Reps.mv x t rs)
  | _, _, .fix h => .fix (by
      rcases h with ⟨h1, h2, r⟩ | h
      · refine .inl ⟨x.out h1 (rd_some r), ?_, x.rd h1 r⟩
        rcases r with r | ⟨o, r⟩ <;> exact t.out h2 r
      · exact .inr h)
  | _, _, .ref h => .ref (x.at h)
  | _, _, .obj h1 h2 h3 h4 h5 r1 r2 rs => .obj (x.out h1 (by rw [r1]; exact fun z => nomatch z)) (t.out h2 r1) (x.out h3 (by rw [r2]; exact fun z => nomatch z)) (t.out h4 r2) h5 (x.keep _ _ h1 r1) (x.keep _ _ h3 r2) (Reps.mv x t rs)
theorem Reps.mv {T T' m m' : List Addr} {H H' : Hp} (x : Ext m H m' H') (t : TExt T H T') : ∀ {ds : List D} {vs : List V}, Reps B T m H ds vs → Reps B T' m' H' ds vs
  | _, _, .nil => .nil
  | _, _, .cons r rs => .cons (Rep.mv x t r) (Reps.mv x t rs)
end
end
end Cb
/-! The Cb layer, part 2: the state relation, what is wanted behind a step, the judgements. -/
namespace Cb
open PySem L2

/-- pairs of a dict -/
def RepP (B : Tab) (T m : List Addr) (H : Hp) {κ : Type} (kvs : List (κ × D)) (xs : List (κ × V)) : Prop :=
  kvs.map (·.1) = xs.map (·.1) ∧ Reps B T m H (kvs.map (·.2)) (xs.map (·.2))
def CellOk (B : Tab) (T m : List Addr) (H : Hp) (a : Addr) : Cell → Prop
  | .vals ds => ∃ xs, H a = some (.lst xs) ∧ Reps B T m H ds xs
  | .dK kvs => ∃ xs, H a = some (.dK xs) ∧ RepP B T m H kvs xs
  | .dT kvs => ∃ xs, H a = some (.dT xs) ∧ RepP B T m H kvs xs
structure RelH (B : Tab) (T m : List Addr) (H : Hp) (h : AH) : Prop where
  len : m.length = h.length
  nd : m.Nodup
  cell : ∀ (k : Nat) (c : Cell), h[k]? = some c → ∃ a, m[k]? = some a ∧ CellOk B T m H a c
  tl : ∀ a ∈ T, H a ≠ none ∧ a ∉ m
structure RelE (B : Tab) (T m : List Addr) (H : Hp) (en : En) (σ : St) : Prop where
  len : en.length = σ.length
  at_ : ∀ (i : Nat) (d : D), en[i]? = some (some d) → ∃ v, σ[i]? = some (some v) ∧ Rep B T m H d v

section
variable {B : Tab} {T m m' : List Addr} {H H' : Hp} {h h' : AH} {en : En} {σ : St}
theorem RepP.mono {κ : Type} {kvs : List (κ × D)} {xs : List (κ × V)} (x : Ext m H m' H') (r : RepP B T m H kvs xs) : RepP B T m' H' kvs xs := ⟨r.1, r.2.mono x⟩
theorem CellOk.there {a : Addr} {c : Cell} (r : CellOk B T m H a c) : H a ≠ none := by
  cases c <;> (obtain ⟨xs, e, _⟩ := r; rw [e]; exact fun z => nomatch z)
theorem RelE.mono (x : Ext m H m' H') (r : RelE B T m H en σ) : RelE B T m' H' en σ :=
  ⟨r.len, fun i d e => let ⟨v, e1, q⟩ := r.at_ i d e; ⟨v, e1, q.mono x⟩⟩
theorem RelH.at (R : RelH B T m H h) {k : Nat} {c : Cell} (e : h[k]? = some c) : ∃ a, m[k]? = some a ∧ CellOk B T m H a c := R.cell k c e
theorem RelH.live (R : RelH B T m H h) {a : Addr} (ha : a ∈ m) : H a ≠ none := by
  obtain ⟨k, hk, e⟩ := List.mem_iff_getElem.mp ha
  have hh : k < h.length := by rw [← R.len]; exact hk
  obtain ⟨b, e1, c⟩ := R.cell k h[k] (by simp [hh])
  rw [List.getElem?_eq_getElem hk, e] at e1
  cases e1
  exact c.there
theorem RelH.fresh (R : RelH B T m H h) {p : Addr} (n : H p = none) : p ∉ m ∧ p ∉ T :=
  ⟨fun z => R.live z n, fun z => (R.tl p z).1 n⟩
/-- a new thing that no one holds yet -/
theorem ext_new {p : Addr} {o : HO} (n : H p = none) : Ext m H m (upd H p o) := by
  refine ⟨⟨[], by simp, by simp⟩, fun a u _ e => ?_, fun a e => ?_⟩
  · rw [upd_ne (ne_of_none e n)]; exact e
  · unfold upd; split
    · exact fun z => nomatch z
    · exact e
/-- the cells stay as they are -/
theorem RelH.kept (R : RelH B T m H h) (x : Ext m H m H') (k : ∀ a ∈ m, H' a = H a) : RelH B T m H' h := by
  refine ⟨R.len, R.nd, fun i c e => ?_, fun a ha => ⟨x.dom a (R.tl a ha).1, (R.tl a ha).2⟩⟩
  obtain ⟨a, e1, q⟩ := R.cell i c e
  refine ⟨a, e1, ?_⟩
  have hm : a ∈ m := List.mem_of_getElem? e1
  cases c <;> (obtain ⟨xs, e2, r⟩ := q; exact ⟨xs, (k a hm).trans e2, r.mono x⟩)
theorem RelH.new (R : RelH B T m H h) {p : Addr} {o : HO} (n : H p = none) : RelH B T m (upd H p o) h :=
  R.kept (ext_new n) fun a ha => upd_ne fun z => R.live (z ▸ ha) n
theorem Reps.new {ds : List D} {xs : List V} {p : Addr} {o : HO} (r : Reps B T m H ds xs) (n : H p = none) : Reps B T m (upd H p o) ds xs := r.mono (ext_new n)
theorem Rep.new {d : D} {x : V} {p : Addr} {o : HO} (r : Rep B T m H d x) (n : H p = none) : Rep B T m (upd H p o) d x := r.mono (ext_new n)
/-- a new cell -/
theorem ext_cell {p : Addr} {o : HO} (n : H p = none) : Ext m H (m ++ [p]) (upd H p o) := by
  refine ⟨⟨[p], rfl, fun a ha => by simp at ha; subst ha; exact n⟩, fun a u _ e => ?_, fun a e => ?_⟩
  · rw [upd_ne (ne_of_none e n)]; exact e
  · unfold upd; split
    · exact fun z => nomatch z
    · exact e
theorem RelH.cellNew (R : RelH B T m H h) {p : Addr} {o : HO} {c : Cell} (n : H p = none) (hc : CellOk B T (m ++ [p]) (upd H p o) p c) : RelH B T (m ++ [p]) (upd H p o) (h ++ [c]) := by
  have x : Ext m H (m ++ [p]) (upd H p o) := ext_cell n
  have hp := R.fresh n
  refine ⟨by simp [R.len], ?_, fun k d e => ?_, fun a ha => ⟨x.dom a (R.tl a ha).1, fun z => ?_⟩⟩
  · rw [List.nodup_append]
    exact ⟨R.nd, by simp, fun a ha b hb => by simp at hb; subst hb; exact fun z => hp.1 (z ▸ ha)⟩
  · by_cases hk : k < h.length
    · rw [List.getElem?_append_left hk] at e
      obtain ⟨a, e1, q⟩ := R.cell k d e
      refine ⟨a, x.at e1, ?_⟩
      have ne : a ≠ p := fun z => hp.1 (z ▸ List.mem_of_getElem? e1)
      cases d <;> (obtain ⟨xs, e2, r⟩ := q; exact ⟨xs, by rw [upd_ne ne]; exact e2, r.mono x⟩)
    · rw [List.getElem?_append_right (by omega)] at e
      have hk2 : k = h.length := by
        have := (List.getElem?_eq_some_iff.mp e).1
        simp at this
        omega
      subst hk2
      simp at e
      subst e
      refine ⟨p, ?_, hc⟩
      rw [← R.len]
      simp
  · rcases List.mem_append.mp z with z | z
    · exact (R.tl a ha).2 z
    · simp at z; subst z; exact (R.tl a ha).1 n
/-- a cell is written -/
theorem ext_set (R : RelH B T m H h) {k : Nat} {a : Addr} {o : HO} (hk : m[k]? = some a) : Ext m H m (upd H a o) := by
  refine ⟨⟨[], by simp, by simp⟩, fun b u hb e => ?_, fun b e => ?_⟩
  · have ne : b ≠ a := fun z => hb (by rw [z]; exact List.mem_of_getElem? hk)
    rw [upd_ne ne]; exact e
  · unfold upd; split
    · exact fun z => nomatch z
    · exact e
theorem RelH.set (R : RelH B T m H h) {k : Nat} {a : Addr} {o : HO} {c : Cell} (hk : m[k]? = some a) (hc : CellOk B T m (upd H a o) a c) : RelH B T m (upd H a o) (h.set k c) := by
  have x := ext_set (o := o) R hk
  refine ⟨by simp [R.len], R.nd, fun i d e => ?_, fun b hb => ⟨x.dom b (R.tl b hb).1, (R.tl b hb).2⟩⟩
  by_cases hi : i = k
  · subst hi
    have hl : i < h.length := by rw [← R.len]; exact (List.getElem?_eq_some_iff.mp hk).1
    rw [List.getElem?_set_self hl] at e
    cases e
    exact ⟨a, hk, hc⟩
  · rw [List.getElem?_set_ne (Ne.symm hi)] at e
    obtain ⟨b, e1, q⟩ := R.cell i d e
    refine ⟨b, e1, ?_⟩
    have ne : b ≠ a := fun z => by
      subst z
      obtain ⟨l1, q1⟩ := List.getElem?_eq_some_iff.mp e1
      obtain ⟨l2, q2⟩ := List.getElem?_eq_some_iff.mp hk
      exact hi ((List.getElem_inj R.nd).mp (q1.trans q2.symm))
    cases d <;> (obtain ⟨xs, e2, r⟩ := q; exact ⟨xs, by rw [upd_ne ne]; exact e2, r.mono x⟩)
end

/-! ### what is wanted behind a step -/
/-- an error of the class number c lies at x with its field d -/
def ErrAt (B : Tab) (T m : List Addr) (H : Hp) (c : Nat) (d : D) (x : Addr) : Prop := c ∈ B.ks ∧ ∃ v, H x = some (.xd [(B.fld c, v)]) ∧ Rep B T m H d v
def Po {α β : Type} (R : List Addr → Hp → α → β → Prop) (B : Tab) (W : WX) (T m : List Addr) (σ : St) (H : Hp) (Q : β → Hp → Prop) : Res α → Prop
  | .stuck => False
  | .ok a h' => ∀ m' b H', Ext m H m' H' → RelH B T m' H' h' → R m' H' a b → Q b H'
  | .exc c d h' => ∀ m' x H', Ext m H m' H' → RelH B T m' H' h' → ErrAt B T m' H' c d x → W (.ref (B.err c)) (some x) σ H'
abbrev RD (B : Tab) (T : List Addr) : List Addr → Hp → D → V → Prop := fun m H d v => Rep B T m H d v
abbrev RDs (B : Tab) (T : List Addr) : List Addr → Hp → List D → List V → Prop := fun m H d v => Reps B T m H d v
abbrev RB : List Addr → Hp → Bool → Bool → Prop := fun _ _ a b => b = a
abbrev PE_ (B : Tab) (W : WX) (T m : List Addr) (σ : St) (H : Hp) (Q : VK) : Res D → Prop := Po (RD B T) B W T m σ H Q
abbrev PT_ (B : Tab) (W : WX) (T m : List Addr) (σ : St) (H : Hp) (Q : Bool → Hp → Prop) : Res Bool → Prop := Po RB B W T m σ H Q
abbrev PA_ (B : Tab) (W : WX) (T m : List Addr) (σ : St) (H : Hp) (Q : List V → Hp → Prop) : Res (List D) → Prop := Po (RDs B T) B W T m σ H Q
inductive RS where
  | stuck | nx (en : En) (h : AH) | ret (d : D) (h : AH) | brk (en : En) (h : AH) | cont (en : En) (h : AH) | exc (c : Nat) (d : D) (en : En) (h : AH)
def PS_ (B : Tab) (W : WX) (T m : List Addr) (H : Hp) (Z : Ends) : RS → Prop
  | .stuck => False
  | .nx en' h' => ∀ m' σ' H', Ext m H m' H' → RelH B T m' H' h' → RelE B T m' H' en' σ' → Z.nx σ' H'
  | .ret d h' => ∀ m' v H', Ext m H m' H' → RelH B T m' H' h' → Rep B T m' H' d v → Z.rt v H'
  | .brk en' h' => ∀ m' σ' H', Ext m H m' H' → RelH B T m' H' h' → RelE B T m' H' en' σ' → Z.bk σ' H'
  | .cont en' h' => ∀ m' σ' H', Ext m H m' H' → RelH B T m' H' h' → RelE B T m' H' en' σ' → Z.ct σ' H'
  | .exc c d en' h' => ∀ m' x σ' H', Ext m H m' H' → RelH B T m' H' h' → RelE B T m' H' en' σ' → ErrAt B T m' H' c d x → W (.ref (B.err c)) (some x) σ' H'

section
variable {B : Tab} {W : WX} {T m m1 : List Addr} {H H1 : Hp} {σ : St} {h : AH}
theorem Po.from {α β : Type} {R : List Addr → Hp → α → β → Prop} {Q : β → Hp → Prop} {r : Res α} (x : Ext m H m1 H1) (p : Po R B W T m σ H Q r) : Po R B W T m1 σ H1 Q r := by
  cases r with
  | stuck => exact p
  | ok d h' => exact fun m' v H' y => p m' v H' (x.trans y)
  | exc c d h' => exact fun m' z H' y => p m' z H' (x.trans y)
theorem Po.bind {α β γ δ : Type} {R : List Addr → Hp → α → β → Prop} {R2 : List Addr → Hp → γ → δ → Prop} {Q : δ → Hp → Prop} {Q1 : β → Hp → Prop} {r : Res α} {k : α → AH → Res γ} (p : Po R2 B W T m σ H Q (r.bind k))
    (hk : ∀ d h1 m1 v H1, Ext m H m1 H1 → RelH B T m1 H1 h1 → R m1 H1 d v → Po R2 B W T m1 σ H1 Q (k d h1) → Q1 v H1) : Po R B W T m σ H Q1 r := by
  cases r with
  | stuck => exact p
  | ok d h' => exact fun m' v H' y z q => hk d h' m' v H' y z q (Po.from y p)
  | exc c d h' => exact p
theorem PS_.from {Z : Ends} {r : RS} (x : Ext m H m1 H1) (p : PS_ B W T m H Z r) : PS_ B W T m1 H1 Z r := by
  cases r with
  | stuck => exact p
  | nx en h' => exact fun m' s H' y => p m' s H' (x.trans y)
  | ret d h' => exact fun m' v H' y => p m' v H' (x.trans y)
  | brk en h' => exact fun m' s H' y => p m' s H' (x.trans y)
  | cont en h' => exact fun m' s H' y => p m' s H' (x.trans y)
  | exc c d en h' => exact fun m' z s H' y => p m' z s H' (x.trans y)
def Res.bindS {α : Type} : Res α → En → (α → AH → RS) → RS
  | .stuck, _, _ => .stuck
  | .ok a h, _, k => k a h
  | .exc c d h, en, _ => .exc c d en h
theorem Po.bindS {α β : Type} {R : List Addr → Hp → α → β → Prop} {Z : Ends} {Q1 : β → Hp → Prop} {en : En} {r : Res α} {k : α → AH → RS} (he : RelE B T m H en σ) (p : PS_ B W T m H Z (r.bindS en k))
    (hk : ∀ d h1 m1 v H1, Ext m H m1 H1 → RelH B T m1 H1 h1 → R m1 H1 d v → PS_ B W T m1 H1 Z (k d h1) → Q1 v H1) : Po R B W T m σ H Q1 r := by
  cases r with
  | stuck => exact p
  | ok d h' => exact fun m' v H' y z q => hk d h' m' v H' y z q (PS_.from y p)
  | exc c d h' => exact fun m' x H' y z q => p m' x σ H' y z (he.mono y) q
end

/-! ### the judgements -/
def EE (X : Cx) (B : Tab) (W : WX) (e : Expr) (f : En → AH → Res D) : Prop :=
  ∃ t, PE X e t ∧ ∀ T m σ H en h Q, RelH B T m H h → RelE B T m H en σ → PE_ B W T m σ H Q (f en h) → t σ H Q
def ET (X : Cx) (B : Tab) (W : WX) (e : Expr) (f : En → AH → Res Bool) : Prop :=
  ∃ t, PT X e t ∧ ∀ T m σ H en h Q, RelH B T m H h → RelE B T m H en σ → PT_ B W T m σ H Q (f en h) → t σ H Q
def EW (X : Cx) (B : Tab) (W : WX) (e : Expr) (f : En → AH → Res Bool) : Prop :=
  ∃ t, PW X e t ∧ ∀ T m σ H en h Q, RelH B T m H h → RelE B T m H en σ → PT_ B W T m σ H Q (f en h) → t σ H Q
def EA (X : Cx) (B : Tab) (W : WX) (es : List Expr) (f : En → AH → Res (List D)) : Prop :=
  ∃ t, PA X es t ∧ ∀ T m σ H en h Q, RelH B T m H h → RelE B T m H en σ → PA_ B W T m σ H Q (f en h) → t σ H Q
def SS (X : Cx) (B : Tab) (W : WX) (st : Stmt) (f : En → AH → RS) : Prop :=
  ∃ t, PS X st t ∧ ∀ T m σ H en h Z, RelH B T m H h → RelE B T m H en σ → PS_ B W T m H Z (f en h) → t Z σ H
def SSs (X : Cx) (B : Tab) (W : WX) (st : List Stmt) (f : En → AH → RS) : Prop :=
  ∃ t, PSs X st t ∧ ∀ T m σ H en h Z, RelH B T m H h → RelE B T m H en σ → PS_ B W T m H Z (f en h) → t Z σ H
/-- a target gets a value -/
def EG (X : Cx) (B : Tab) (tg : Expr) (f : D → En → AH → Option (En × AH)) : Prop :=
  ∃ t, PG X tg t ∧ ∀ T m σ H en h Q d v en' h', RelH B T m H h → RelE B T m H en σ → Rep B T m H d v → f d en h = some (en', h') →
    (∀ m' σ' H', Ext m H m' H' → RelH B T m' H' h' → RelE B T m' H' en' σ' → Q σ' H') → t v σ H Q
end Cb
/-! The Cb layer, part 3: rules of expressions. -/
namespace Cb
open PySem L2

abbrev LIM : Nat := 16777216
theorem lim_eq : sizeLine = LIM := sizeLine_eq
/-! ### what the plain functions do -/
def var (i : Nat) (en : En) (h : AH) : Res D := match en[i]? with
  | some (some d) => .ok d h
  | _ => .stuck
def cellL (h : AH) (k : Nat) : Option (List D) := match h[k]? with
  | some (.vals l) => some l
  | _ => none
theorem cellL_eq {h : AH} {k : Nat} {l : List D} (e : cellL h k = some l) : h[k]? = some (.vals l) := by
  unfold cellL at e
  split at e
  · rename_i q; cases e; exact q
  · cases e
/-- the items of a list (frozen or mutable) -/
def asL (h : AH) : D → Option (List D)
  | .lst l => some l
  | .ref k => cellL h k
  | .fix l => some (l.map D.int)
  | _ => none
/-- .. not of the script -/
def asM (h : AH) : D → Option (List D)
  | .lst l => some l
  | .ref k => cellL h k
  | _ => none
def asS (h : AH) : D → Option (List D)
  | .tup l => some l
  | d => asL h d

section
variable {B : Tab} {T m : List Addr} {H : Hp} {h : AH}
theorem Reps.ints_inv : ∀ {l : List Int} {xs : List V}, Reps B T m H (l.map D.int) xs → xs = l.map V.int
  | [], _, .nil => rfl
  | i :: l, _, .cons r rs => by cases r; rw [Reps.ints_inv rs]; rfl
theorem asL_rep (R : RelH B T m H h) {d : D} {v : V} {l : List D} (r : Rep B T m H d v) (e : asL h d = some l) : ∃ a xs, v = .ref a ∧ SqL B.K H a xs ∧ Reps B T m H l xs := by
  cases d with
  | lst ds =>
    cases e
    cases r with
    | lst h1 h2 r rs => exact ⟨_, _, rfl, SqL.of r, rs⟩
  | fix ns =>
    cases e
    cases r with
    | fix hf =>
      refine ⟨_, _, rfl, ?_, Reps.ints ns⟩
      rcases hf with ⟨_, _, q⟩ | q
      · exact .inl q
      · exact .inr q
  | ref k =>
    cases r with
    | ref hk =>
      obtain ⟨a, e1, xs, e2, rs⟩ := R.cell k _ (cellL_eq (show cellL h k = some l from e))
      rw [hk] at e1
      cases e1
      exact ⟨_, xs, rfl, SqL.of e2, rs⟩
  | _ => cases e
theorem asM_rep (R : RelH B T m H h) {d : D} {v : V} {l : List D} (r : Rep B T m H d v) (e : asM h d = some l) : ∃ a xs, v = .ref a ∧ H a = some (.lst xs) ∧ Reps B T m H l xs := by
  cases d with
  | lst ds =>
    cases e
    cases r with
    | lst h1 h2 r rs => exact ⟨_, _, rfl, r, rs⟩
  | ref k =>
    cases r with
    | ref hk =>
      obtain ⟨a, e1, xs, e2, rs⟩ := R.cell k _ (cellL_eq (show cellL h k = some l from e))
      rw [hk] at e1
      cases e1
      exact ⟨_, xs, rfl, e2, rs⟩
  | _ => cases e
theorem asS_rep (R : RelH B T m H h) {d : D} {v : V} {l : List D} (r : Rep B T m H d v) (e : asS h d = some l) : ∃ a xs, v = .ref a ∧ (SqL B.K H a xs ∨ SqT B.K H a xs) ∧ Reps B T m H l xs := by
  cases d with
  | tup ds =>
    cases e
    cases r with
    | tup h1 h2 r rs => exact ⟨_, _, rfl, .inr (SqT.of r), rs⟩
  | _ =>
    obtain ⟨a, xs, e1, e2, e3⟩ := asL_rep R r e
    exact ⟨a, xs, e1, .inl e2, e3⟩
theorem Reps.atI {ds : List D} {xs : List V} {i : Int} {d : D} (r : Reps B T m H ds xs) (e : atI ds i = some d) : ∃ v, L2.atI xs i = some v ∧ Rep B T m H d v := by
  unfold L2.atI at e ⊢
  rw [← r.length]
  cases q : ixN ds.length i with
  | none => rw [q] at e; cases e
  | some j =>
    rw [q] at e
    exact r.get e
/-- a new frozen list, tuple -/
theorem rep_lst (R : RelH B T m H h) {ds : List D} {xs : List V} {p : Addr} (r : Reps B T m H ds xs) (n : H p = none) : Rep B T m (upd H p (.lst xs)) (.lst ds) (.ref p) :=
  .lst (R.fresh n).1 (R.fresh n).2 upd_same (r.new n)
theorem rep_tup (R : RelH B T m H h) {ds : List D} {xs : List V} {p : Addr} (r : Reps B T m H ds xs) (n : H p = none) : Rep B T m (upd H p (.tup xs)) (.tup ds) (.ref p) :=
  .tup (R.fresh n).1 (R.fresh n).2 upd_same (r.new n)
end

/-! ### names, constants -/
section
variable {X : Cx} {B : Tab} {W : WX} {pos : Pos}
theorem ee_var (i : Nat) {x : Str} (hN : X.N[i]? = some x := by rfl) (hv : Vis X.env.scope x := by first | exact Or.inl rfl | exact Or.inr (Or.inl rfl) | exact Or.inr (Or.inr rfl)) (hd : (x == ("__debug__" : Str)) = false := by decide)
    (hcd : (x == ("__classdict__" : Str)) = false := by decide) : EE X B W (.Name x pos) (var i) := by
  refine ⟨_, pe_var hN hv hd hcd, fun T m σ H en h Q R Re p => ?_⟩
  unfold var at p
  cases q : en[i]? with
  | none => rw [q] at p; exact p.elim
  | some o =>
    rw [q] at p
    cases o with
    | none => exact p.elim
    | some d =>
      obtain ⟨v, e, r⟩ := Re.at_ i d q
      exact ⟨v, e, p m v H (Ext.refl _ _) R r⟩
theorem ee_const {e : Expr} {v : V} {d : D} (he : PE X e (tC v)) (hr : ∀ T m H, Rep B T m H d v) : EE X B W e (fun _ h => .ok d h) :=
  ⟨_, he, fun T m σ H en h Q R Re p => p m v H (Ext.refl _ _) R (hr T m H)⟩
theorem ee_int {i : Int} {j} : EE X B W (.Constant (.int i) j pos) (fun _ h => .ok (.int i) h) := ee_const pe_int fun _ _ _ => .int i
theorem ee_bl {b : Bool} {j} : EE X B W (.Constant (.bool b) j pos) (fun _ h => .ok (.bl b) h) := ee_const pe_bl fun _ _ _ => .bl b
theorem ee_non {j} : EE X B W (.Constant .none j pos) (fun _ h => .ok .non h) := ee_const pe_non fun _ _ _ => .non
theorem ee_str {x : Str} {j} : EE X B W (.Constant (.str x) j pos) (fun _ h => .ok (.str x) h) := ee_const pe_str fun _ _ _ => .str x
end

/-! ### two operands, one -/
/-- a step over two values -/
def O2 (X : Cx) (B : Tab) (r : R2) (o : D → D → AH → Res D) : Prop :=
  ∀ (W : WX) T m σ H h Q dx dy x y, RelH B T m H h → Rep B T m H dx x → Rep B T m H dy y → PE_ B W T m σ H Q (o dx dy h) → r x y H Q
def O1 (X : Cx) (B : Tab) (r : V → Hp → VK → Prop) (o : D → AH → Res D) : Prop :=
  ∀ (W : WX) T m σ H h Q dx x, RelH B T m H h → Rep B T m H dx x → PE_ B W T m σ H Q (o dx h) → r x H Q
def bin (o : D → D → AH → Res D) (fa fb : En → AH → Res D) : En → AH → Res D := fun en h => (fa en h).bind fun x h1 => (fb en h1).bind fun y h2 => o x y h2
def una (o : D → AH → Res D) (fa : En → AH → Res D) : En → AH → Res D := fun en h => (fa en h).bind o
section
variable {X : Cx} {B : Tab} {W : WX} {pos : Pos} {a b : Expr} {fa fb : En → AH → Res D}
theorem o2_run {ta tb : TE} {r : R2} {o : D → D → AH → Res D} (h2 : O2 X B r o) (ha : ∀ T m σ H en h Q, RelH B T m H h → RelE B T m H en σ → PE_ B W T m σ H Q (fa en h) → ta σ H Q)
    (hb : ∀ T m σ H en h Q, RelH B T m H h → RelE B T m H en σ → PE_ B W T m σ H Q (fb en h) → tb σ H Q) {T m : List Addr} {σ : St} {H : Hp} {en : En} {h : AH} {Q : VK} (R : RelH B T m H h) (Re : RelE B T m H en σ)
    (p : PE_ B W T m σ H Q (bin o fa fb en h)) : ta σ H fun x H1 => tb σ H1 fun y H2 => r x y H2 Q := by
  refine ha T m σ H en h _ R Re (p.bind fun d h1 m1 v H1 x1 R1 r1 p1 => ?_)
  refine hb T m1 σ H1 en h1 _ R1 (Re.mono x1) (p1.bind fun e h2' m2 u H2 x2 R2 r2 p2 => ?_)
  exact h2 W T m2 σ H2 h2' Q d e v u R2 (r1.mono x2) r2 p2
theorem ee_bin {op : Operator} {r : R2} {o : D → D → AH → Res D} (ho : OpR X (binaryOp op) r) (h2 : O2 X B r o) (ha : EE X B W a fa) (hb : EE X B W b fb) : EE X B W (.BinOp a op b pos) (bin o fa fb) := by
  obtain ⟨ta, pa, qa⟩ := ha
  obtain ⟨tb, pb, qb⟩ := hb
  exact ⟨_, pe_op ho pa pb, fun T m σ H en h Q R Re p => o2_run h2 qa qb R Re p⟩
theorem ee_cmp {op : CmpOp} {r : R2} {o : D → D → AH → Res D} (ho : OpR X (compareOp op) r) (h2 : O2 X B r o) (ha : EE X B W a fa) (hb : EE X B W b fb) (hm : behindInMarks op b = false := by first | exact nomark _ | rfl) : EE X B W (.Compare a [op] [b] pos) (bin o fa fb) := by
  obtain ⟨ta, pa, qa⟩ := ha
  obtain ⟨tb, pb, qb⟩ := hb
  exact ⟨_, pe_cmpR ho pa pb hm, fun T m σ H en h Q R Re p => o2_run h2 qa qb R Re p⟩
theorem ee_un {op : UnaryOp} {r : V → Hp → VK → Prop} {o : D → AH → Res D} (ho : UnR X (unaryOp op) r) (h1 : O1 X B r o) (ha : EE X B W a fa) : EE X B W (.UnaryOp op a pos) (una o fa) := by
  obtain ⟨ta, pa, qa⟩ := ha
  exact ⟨_, pe_un ho pa, fun T m σ H en h Q R Re p => qa T m σ H en h _ R Re (p.bind fun d h1' m1 v H1 x1 R1 r1 p1 => h1 W T m1 σ H1 h1' Q d v R1 r1 p1)⟩
end

/-! ### ints -/
def i2 (c : Int → Int → Bool) (g : Int → Int → D) : D → D → AH → Res D
  | .int i, .int j, h => bif c i j then .ok (g i j) h else .stuck
  | _, _, _ => .stuck
theorem o2_int {X : Cx} {B : Tab} {C : Int → Int → Prop} {gv : Int → Int → V} {c : Int → Int → Bool} {g : Int → Int → D} (hc : ∀ i j, c i j = true → C i j) (hg : ∀ i j T m H, Rep B T m H (g i j) (gv i j)) : O2 X B (rI C gv) (i2 c g) := by
  intro W T m σ H h Q dx dy x y R rx ry p
  cases rx with
  | int i =>
    cases ry with
    | int j =>
      cases q : c i j with
      | true =>
        have p2 : PE_ B W T m σ H Q (.ok (g i j) h) := by
          have e : i2 c g (.int i) (.int j) h = .ok (g i j) h := by show (bif c i j then _ else _) = _; rw [q] <;> rfl
          rw [← e]; exact p
        exact ⟨i, j, rfl, rfl, hc i j q, p2 m _ H (Ext.refl _ _) R (hg i j T m H)⟩
      | false =>
        have e : i2 c g (.int i) (.int j) h = .stuck := by show (bif c i j then _ else _) = _; rw [q] <;> rfl
        rw [e] at p
        exact p.elim
    | _ => exact p.elim
  | _ => exact p.elim
def i20 (g : Int → Int → D) : D → D → AH → Res D
  | .int i, .int j, h => .ok (g i j) h
  | _, _, _ => .stuck
theorem o2_int0 {X : Cx} {B : Tab} {gv : Int → Int → V} {g : Int → Int → D} (hg : ∀ i j T m H, Rep B T m H (g i j) (gv i j)) : O2 X B (rI0 gv) (i20 g) := by
  intro W T m σ H h Q dx dy x y R rx ry p
  cases rx with
  | int i =>
    cases ry with
    | int j => exact ⟨i, j, rfl, rfl, p m _ H (Ext.refl _ _) R (hg i j T m H)⟩
    | _ => exact p.elim
  | _ => exact p.elim
/-- how many bits -/
abbrev bits (i : Int) : Nat := Builtin.Int.intBits i
def cMul (i j : Int) : Bool := decide (bits i + bits j ≤ 134217728)
def cDiv (_ j : Int) : Bool := decide (0 < j) && decide (j.natAbs.log2 < 9000)
def cMod (_ j : Int) : Bool := decide (0 < j)
def cPow (i j : Int) : Bool := decide (0 ≤ j) && (decide (j ≤ 1000000) && decide (i.natAbs < 2 ^ 64))
def cShr (_ j : Int) : Bool := decide (0 ≤ j)
theorem cMul_ok {i j : Int} (h : cMul i j = true) : CMulX i j := by
  have := of_decide_eq_true h
  show (_ : Int) + _ ≤ _
  unfold bits at this
  omega
theorem cDiv_ok {i j : Int} (h : cDiv i j = true) : CDivW i j := by
  obtain ⟨h1, h2⟩ := Bool.and_eq_true_iff.mp h
  exact ⟨of_decide_eq_true h1, of_decide_eq_true h2⟩
theorem cPow_ok {i j : Int} (h : cPow i j = true) : CPow i j := by
  obtain ⟨h1, h2⟩ := Bool.and_eq_true_iff.mp h
  obtain ⟨h2, h3⟩ := Bool.and_eq_true_iff.mp h2
  exact ⟨of_decide_eq_true h1, of_decide_eq_true h2, of_decide_eq_true h3⟩
section
variable {X : Cx} {B : Tab} {W : WX} {pos : Pos} {a b : Expr} {fa fb : En → AH → Res D}
def dSub : D → D → AH → Res D := i20 fun i j => .int (i - j)
theorem ee_sub (ha : EE X B W a fa) (hb : EE X B W b fb) : EE X B W (.BinOp a .Sub b pos) (bin dSub fa fb) := ee_bin op_sub (o2_int0 fun _ _ _ _ _ => .int _) ha hb
def dFdiv : D → D → AH → Res D := i2 cDiv fun i j => .int (i / j)
theorem ee_fdiv (ha : EE X B W a fa) (hb : EE X B W b fb) : EE X B W (.BinOp a .FloorDiv b pos) (bin dFdiv fa fb) := ee_bin op_fdivW (o2_int (fun _ _ => cDiv_ok) fun _ _ _ _ _ => .int _) ha hb
def dMod : D → D → AH → Res D := i2 cMod fun i j => .int (i % j)
theorem ee_mod (ha : EE X B W a fa) (hb : EE X B W b fb) : EE X B W (.BinOp a .Mod b pos) (bin dMod fa fb) := ee_bin op_mod (o2_int (fun _ _ => of_decide_eq_true) fun _ _ _ _ _ => .int _) ha hb
def dPow : D → D → AH → Res D := i2 cPow fun i j => .int (i ^ j.toNat)
theorem ee_pow (ha : EE X B W a fa) (hb : EE X B W b fb) : EE X B W (.BinOp a .Pow b pos) (bin dPow fa fb) := ee_bin op_pow (o2_int (fun _ _ => cPow_ok) fun _ _ _ _ _ => .int _) ha hb
def dShl : D → D → AH → Res D := i2 cPow fun i j => .int (i * 2 ^ j.toNat)
theorem ee_shl (ha : EE X B W a fa) (hb : EE X B W b fb) : EE X B W (.BinOp a .LShift b pos) (bin dShl fa fb) := ee_bin op_shl (o2_int (fun _ _ => cPow_ok) fun _ _ _ _ _ => .int _) ha hb
def dShr : D → D → AH → Res D := i2 cShr fun i j => .int (i / 2 ^ j.toNat)
theorem ee_shr (ha : EE X B W a fa) (hb : EE X B W b fb) : EE X B W (.BinOp a .RShift b pos) (bin dShr fa fb) := ee_bin op_shr (o2_int (fun _ _ => of_decide_eq_true) fun _ _ _ _ _ => .int _) ha hb
def dAnd : D → D → AH → Res D := i20 fun i j => .int (Builtin.bitAnd i j)
theorem ee_and (ha : EE X B W a fa) (hb : EE X B W b fb) : EE X B W (.BinOp a .BitAnd b pos) (bin dAnd fa fb) := ee_bin op_and (o2_int0 fun _ _ _ _ _ => .int _) ha hb
def dOr : D → D → AH → Res D := i20 fun i j => .int (Builtin.bitOr i j)
theorem ee_or (ha : EE X B W a fa) (hb : EE X B W b fb) : EE X B W (.BinOp a .BitOr b pos) (bin dOr fa fb) := ee_bin op_or (o2_int0 fun _ _ _ _ _ => .int _) ha hb
def dXor : D → D → AH → Res D := i20 fun i j => .int (Builtin.bitXor i j)
theorem ee_xor (ha : EE X B W a fa) (hb : EE X B W b fb) : EE X B W (.BinOp a .BitXor b pos) (bin dXor fa fb) := ee_bin op_xor (o2_int0 fun _ _ _ _ _ => .int _) ha hb
def dNeg : D → AH → Res D
  | .int i, h => .ok (.int (-i)) h
  | _, _ => .stuck
def dInv : D → AH → Res D
  | .int i, h => .ok (.int (Builtin.bitNot i)) h
  | _, _ => .stuck
theorem o1_int {gv : Int → V} {o : D → AH → Res D} {g : Int → D} (hg : ∀ i T m H, Rep B T m H (g i) (gv i)) (h1 : ∀ i h, o (.int i) h = .ok (g i) h) (h2 : ∀ d h, (∀ i, d ≠ .int i) → o d h = .stuck) : O1 X B (rU gv) o := by
  intro W T m σ H h Q dx x R rx p
  cases rx with
  | int i =>
    rw [h1] at p
    exact ⟨i, rfl, p m _ H (Ext.refl _ _) R (hg i T m H)⟩
  | _ =>
    rw [h2 _ _ (by intro i z; cases z)] at p
    exact p.elim
theorem ee_neg (ha : EE X B W a fa) : EE X B W (.UnaryOp .USub a pos) (una dNeg fa) := ee_un un_neg (o1_int (g := fun i => .int (-i)) (fun _ _ _ _ => .int _) (fun _ _ => rfl) fun d h z => by cases d <;> first | rfl | exact absurd rfl (z _)) ha
theorem ee_inv (ha : EE X B W a fa) : EE X B W (.UnaryOp .Invert a pos) (una dInv fa) := ee_un un_inv (o1_int (g := fun i => .int (Builtin.bitNot i)) (fun _ _ _ _ => .int _) (fun _ _ => rfl) fun d h z => by cases d <;> first | rfl | exact absurd rfl (z _)) ha
def dLt : D → D → AH → Res D := i20 fun i j => .bl (decide (i < j))
def dLe : D → D → AH → Res D := i20 fun i j => .bl (decide (i ≤ j))
def dGt : D → D → AH → Res D := i20 fun i j => .bl (decide (j < i))
def dGe : D → D → AH → Res D := i20 fun i j => .bl (decide (j ≤ i))
theorem o2_lt : O2 X B (rI0 fun i j => .bl (decide (i < j))) dLt := o2_int0 fun _ _ _ _ _ => .bl _
theorem o2_le : O2 X B (rI0 fun i j => .bl (decide (i ≤ j))) dLe := o2_int0 fun _ _ _ _ _ => .bl _
theorem o2_gt : O2 X B (rI0 fun i j => .bl (decide (j < i))) dGt := o2_int0 fun _ _ _ _ _ => .bl _
theorem o2_ge : O2 X B (rI0 fun i j => .bl (decide (j ≤ i))) dGe := o2_int0 fun _ _ _ _ _ => .bl _
theorem ee_lt (ha : EE X B W a fa) (hb : EE X B W b fb) : EE X B W (.Compare a [.Lt] [b] pos) (bin dLt fa fb) := ee_cmp op_lt o2_lt ha hb
theorem ee_le (ha : EE X B W a fa) (hb : EE X B W b fb) : EE X B W (.Compare a [.LtE] [b] pos) (bin dLe fa fb) := ee_cmp op_le o2_le ha hb
theorem ee_gt (ha : EE X B W a fa) (hb : EE X B W b fb) : EE X B W (.Compare a [.Gt] [b] pos) (bin dGt fa fb) := ee_cmp op_gt o2_gt ha hb
theorem ee_ge (ha : EE X B W a fa) (hb : EE X B W b fb) : EE X B W (.Compare a [.GtE] [b] pos) (bin dGe fa fb) := ee_cmp op_ge o2_ge ha hb
end

/-! ### + and * -/
/-- int + int, list + list (a new frozen list), tuple + tuple -/
def dAdd : D → D → AH → Res D
  | .int i, .int j, h => .ok (.int (i + j)) h
  | .tup a, .tup b, h => bif decide (a ≠ []) && (decide (b ≠ []) && decide (a.length + b.length ≤ LIM)) then .ok (.tup (a ++ b)) h else .stuck
  | d, e, h => (match asM h d, asM h e with
    | some a, some b => bif decide (a.length + b.length ≤ LIM) then .ok (.lst (a ++ b)) h else .stuck
    | _, _ => .stuck)
def rAdd3 (K : PySem.W.Frag) : R2 := fun x y H Q => rI0 (fun i j => .int (i + j)) x y H Q ∨ (rCat x y H Q ∨ rCatT K x y H Q)
theorem op_add3 {X : Cx} : OpR X (binaryOp .Add) (rAdd3 X.K) := op_add.or (op_cat.or op_catT)
theorem o2_add {X : Cx} {B : Tab} (hK : B.K = X.K) : O2 X B (rAdd3 X.K) dAdd := by
  intro W T m σ H h Q dx dy x y R rx ry p
  have lists : ∀ {a b : List D}, asM h dx = some a → asM h dy = some b → PE_ B W T m σ H Q (bif decide (a.length + b.length ≤ LIM) then .ok (.lst (a ++ b)) h else .stuck) → rAdd3 X.K x y H Q := by
    intro a b e1 e2 p
    obtain ⟨l, xs, rfl, h1, r1⟩ := asM_rep R rx e1
    obtain ⟨l2, ys, rfl, h2, r2⟩ := asM_rep R ry e2
    cases q : decide (a.length + b.length ≤ LIM) with
    | false => rw [q] at p; exact p.elim
    | true =>
      rw [q] at p
      have z := of_decide_eq_true q
      rw [r1.length, r2.length, ← lim_eq] at z
      exact .inr (.inl ⟨l, l2, xs, ys, rfl, rfl, h1, h2, z, fun pp n => p m _ _ (ext_new n) (R.new n) (rep_lst R (r1.append r2) n)⟩)
  have go : PE_ B W T m σ H Q (match asM h dx, asM h dy with
    | some a, some b => bif decide (a.length + b.length ≤ LIM) then .ok (.lst (a ++ b)) h else .stuck
    | _, _ => .stuck) → rAdd3 X.K x y H Q := by
    intro p
    cases e1 : asM h dx with
    | none => rw [e1] at p; exact p.elim
    | some a =>
      cases e2 : asM h dy with
      | none => rw [e1, e2] at p; exact p.elim
      | some b => rw [e1, e2] at p; exact lists e1 e2 p
  cases rx with
  | int i =>
    cases ry with
    | int j => exact .inl ⟨i, j, rfl, rfl, p m _ H (Ext.refl _ _) R (.int _)⟩
    | _ => exact go p
  | @tup ds a xs h1 h2 hr rs =>
    cases ry with
    | @tup es a2 ys h3 h4 hr2 rs2 =>
      have p2 : PE_ B W T m σ H Q (bif decide (ds ≠ []) && (decide (es ≠ []) && decide (ds.length + es.length ≤ LIM)) then .ok (.tup (ds ++ es)) h else .stuck) := p
      cases q : decide (ds ≠ []) && (decide (es ≠ []) && decide (ds.length + es.length ≤ LIM)) with
      | false => rw [q] at p2; exact p2.elim
      | true =>
        rw [q] at p2
        obtain ⟨q1, q⟩ := Bool.and_eq_true_iff.mp q
        obtain ⟨q2, q3⟩ := Bool.and_eq_true_iff.mp q
        have q1 := of_decide_eq_true q1
        have q2 := of_decide_eq_true q2
        have q3 := of_decide_eq_true q3
        have l1 := rs.length
        have l2 := rs2.length
        refine .inr (.inr ⟨a, a2, xs, ys, rfl, rfl, SqT.of hr, SqT.of hr2, ?_, ?_, fun z => ?_, fun _ pp n => p2 m _ _ (ext_new n) (R.new n) (rep_tup R (rs.append rs2) n)⟩)
        · rintro rfl; cases rs; exact q1 rfl
        · rw [← l1, ← l2, lim_eq]; exact q3
        · subst z; cases rs2; exact absurd rfl q2
    | _ => exact go p
  | _ => exact go p
/-- int * int, list * int -/
def dMul : D → D → AH → Res D
  | .int i, .int j, h => bif cMul i j then .ok (.int (i * j)) h else .stuck
  | d, .int k, h => (match asM h d with
    | some a => bif decide (k < 1000000) && (decide (-1000000 < k) && decide (a.length * k.toNat ≤ LIM)) then .ok (.lst (List.replicate k.toNat a).flatten) h else .stuck
    | _ => .stuck)
  | _, _, _ => .stuck
def rMul2 : R2 := fun x y H Q => rI CMulX (fun i j => .int (i * j)) x y H Q ∨ rRep x y H Q
theorem op_mul2 {X : Cx} : OpR X (binaryOp .Mult) rMul2 := op_mulX.or op_rep
theorem Reps.flat {B : Tab} {T m : List Addr} {H : Hp} {ds : List D} {xs : List V} (r : Reps B T m H ds xs) : ∀ n : Nat, Reps B T m H (List.replicate n ds).flatten (List.replicate n xs).flatten
  | 0 => .nil
  | n + 1 => by
    rw [List.replicate_succ, List.replicate_succ, List.flatten_cons, List.flatten_cons]
    exact r.append (Reps.flat r n)
theorem o2_mul {X : Cx} {B : Tab} : O2 X B rMul2 dMul := by
  intro W T m σ H h Q dx dy x y R rx ry p
  cases ry with
  | int k =>
    have go : PE_ B W T m σ H Q (match asM h dx with
      | some a => bif decide (k < 1000000) && (decide (-1000000 < k) && decide (a.length * k.toNat ≤ LIM)) then .ok (.lst (List.replicate k.toNat a).flatten) h else .stuck
      | _ => .stuck) → rMul2 x (.int k) H Q := by
      intro p
      cases e1 : asM h dx with
      | none => rw [e1] at p; exact p.elim
      | some a =>
        obtain ⟨l, xs, rfl, h1, r1⟩ := asM_rep R rx e1
        rw [e1] at p
        have p2 : PE_ B W T m σ H Q (bif decide (k < 1000000) && (decide (-1000000 < k) && decide (a.length * k.toNat ≤ LIM)) then .ok (.lst (List.replicate k.toNat a).flatten) h else .stuck) := p
        cases q : decide (k < 1000000) && (decide (-1000000 < k) && decide (a.length * k.toNat ≤ LIM)) with
        | false => rw [q] at p2; exact p2.elim
        | true =>
          rw [q] at p2
          obtain ⟨q1, q⟩ := Bool.and_eq_true_iff.mp q
          obtain ⟨q2, q3⟩ := Bool.and_eq_true_iff.mp q
          have q1 := of_decide_eq_true q1
          have q2 := of_decide_eq_true q2
          have q3 := of_decide_eq_true q3
          rw [r1.length, ← lim_eq] at q3
          exact .inr ⟨l, k, xs, rfl, rfl, h1, by omega, by omega, q3, fun pp n => p2 m _ _ (ext_new n) (R.new n) (rep_lst R (r1.flat _) n)⟩
    cases rx with
    | int i =>
      have p2 : PE_ B W T m σ H Q (bif cMul i k then .ok (.int (i * k)) h else .stuck) := p
      cases q : cMul i k with
      | false => rw [q] at p2; exact p2.elim
      | true =>
        rw [q] at p2
        exact .inl ⟨i, k, rfl, rfl, cMul_ok q, p2 m _ H (Ext.refl _ _) R (.int _)⟩
    | _ => exact go p
  | _ => cases rx <;> exact p.elim
section
variable {X : Cx} {B : Tab} {W : WX} {pos : Pos} {a b : Expr} {fa fb : En → AH → Res D}
theorem ee_add (hK : B.K = X.K) (ha : EE X B W a fa) (hb : EE X B W b fb) : EE X B W (.BinOp a .Add b pos) (bin dAdd fa fb) := ee_bin op_add3 (o2_add hK) ha hb
theorem ee_mul (ha : EE X B W a fa) (hb : EE X B W b fb) : EE X B W (.BinOp a .Mult b pos) (bin dMul fa fb) := ee_bin op_mul2 o2_mul ha hb
end
end Cb
/-! The Cb layer, part 4: comparisons, tests, displays, subscripts. -/
namespace Cb
open PySem L2

/-! ### equality of data -/
mutual
def D.py : D → PyData
  | .non => .none
  | .bl b => .bool b
  | .int i => .int i
  | .str x => .str x
  | .tup l => .tuple (D.pys l)
  | .lst l => .list (D.pys l)
  | .ref _ => .dict []
  | .obj _ _ => .dict []
  | .fix _ => .dict []
def D.pys : List D → List PyData
  | [] => []
  | d :: l => D.py d :: D.pys l
end
theorem pys_map : ∀ l : List D, D.pys l = l.map D.py
  | [] => rfl
  | d :: l => by rw [List.map_cons, ← pys_map l]; rfl
/-- plain data of at most this depth -/
def okd : Nat → D → Bool
  | _, .non => true
  | _, .bl _ => true
  | _, .int _ => true
  | _, .str x => PyData.strOk x
  | k + 1, .tup l => l.all (okd k)
  | k + 1, .lst l => l.all (okd k)
  | _, _ => false
def deqv (d e : D) : Bool := PyData.eqv d.py e.py
theorem okd_lay : ∀ (k : Nat) (d : D), okd k d = true → d.py.canLay0 = true ∧ d.py.depth ≤ k := by
  intro k
  induction k with
  | zero => intro d h; cases d <;> first | (simp [D.py, PyData.canLay0, PyData.depth]; done) | (simp [okd] at h; done) | (simp [okd] at h; simp [D.py, PyData.canLay0, PyData.depth, h])
  | succ k ih =>
    have all : ∀ l : List D, l.all (okd k) = true → PyData.canLayAll0 (D.pys l) = true ∧ PyData.depthAll (D.pys l) ≤ k := by
      intro l
      induction l with
      | nil => intro _; simp [D.pys, PyData.canLayAll0, PyData.depthAll]
      | cons d l il =>
        intro h
        rw [List.all_cons, Bool.and_eq_true] at h
        obtain ⟨h1, h2⟩ := ih d h.1
        obtain ⟨h3, h4⟩ := il h.2
        simp only [D.pys, PyData.canLayAll0, PyData.depthAll, h1, h3, Bool.and_self, true_and]
        omega
    intro d h
    cases d with
    | tup l =>
      obtain ⟨h1, h2⟩ := all l h
      simp only [D.py, PyData.canLay0, PyData.depth, h1, true_and]
      omega
    | lst l =>
      obtain ⟨h1, h2⟩ := all l h
      simp only [D.py, PyData.canLay0, PyData.depth, h1, true_and]
      omega
    | str x => simp [okd] at h; simp [D.py, PyData.canLay0, PyData.depth, h]
    | non => simp [D.py, PyData.canLay0, PyData.depth]
    | bl _ => simp [D.py, PyData.canLay0, PyData.depth]
    | int _ => simp [D.py, PyData.canLay0, PyData.depth]
    | _ => simp [okd] at h
theorem okd_shaped {k : Nat} {d : D} (hk : k ≤ 64) (h : okd k d = true) : SeqAt.shaped d.py = true := by
  obtain ⟨h1, h2⟩ := okd_lay k d h
  unfold SeqAt.shaped
  rw [h1, decide_eq_true (Nat.le_trans h2 hk)] <;> rfl
section
variable {B : Tab} {T m : List Addr} {H : Hp}
theorem okd_dp : ∀ (k : Nat) (d : D) (v : V), okd k d = true → Rep B T m H d v → Dp B.K H v d.py := by
  intro k
  induction k with
  | zero => intro d v h r; cases r <;> first | (simp [okd] at h; done) | exact .non | exact .bl _ | exact .int _ | exact .str _
  | succ k ih =>
    have all : ∀ (l : List D) (xs : List V), l.all (okd k) = true → Reps B T m H l xs → DpAll B.K H xs (D.pys l) := by
      intro l
      induction l with
      | nil => intro xs _ r; cases r; exact .nil
      | cons d l il =>
        intro xs h r
        rw [List.all_cons, Bool.and_eq_true] at h
        cases r with
        | cons r1 r2 => exact .cons (ih _ _ h.1 r1) (il _ h.2 r2)
    intro d v h r
    cases r with
    | tup h1 h2 hr rs => exact .tup (SqT.of hr) (all _ _ h rs)
    | lst h1 h2 hr rs => exact .lst (SqL.of hr) (all _ _ h rs)
    | non => exact .non
    | bl _ => exact .bl _
    | int _ => exact .int _
    | str _ => exact .str _
    | _ => simp [okd] at h
end
/-- what the rules ask of the context -/
structure Good (X : Cx) (B : Tab) : Prop where
  K : B.K = X.K
  calm : X.calm = true
  nd : X.N.Nodup
  un : X.A.units + 100 < cLine
def dEq (d e : D) (h : AH) : Res D := bif okd 20 d && okd 20 e then .ok (.bl (deqv d e)) h else .stuck
def dNe (d e : D) (h : AH) : Res D := bif okd 20 d && okd 20 e then .ok (.bl (!deqv d e)) h else .stuck
section
variable {X : Cx} {B : Tab} {W : WX} {pos : Pos} {a b c : Expr} {fa fb fc : En → AH → Res D}
theorem o2_eq (G : Good X B) : O2 X B (rEqD X.K) dEq := by
  intro W T m σ H h Q dx dy x y R rx ry p
  unfold dEq at p
  cases q : okd 20 dx && okd 20 dy with
  | false => rw [q] at p; exact p.elim
  | true =>
    rw [q] at p
    obtain ⟨q1, q2⟩ := Bool.and_eq_true_iff.mp q
    rw [← G.K]
    exact ⟨_, _, okd_dp _ _ _ q1 rx, okd_dp _ _ _ q2 ry, okd_shaped (by decide) q1, okd_shaped (by decide) q2, p m _ H (Ext.refl _ _) R (.bl _)⟩
theorem o2_ne (G : Good X B) : O2 X B (rNeD X.K) dNe := by
  intro W T m σ H h Q dx dy x y R rx ry p
  unfold dNe at p
  cases q : okd 20 dx && okd 20 dy with
  | false => rw [q] at p; exact p.elim
  | true =>
    rw [q] at p
    obtain ⟨q1, q2⟩ := Bool.and_eq_true_iff.mp q
    rw [← G.K]
    exact ⟨_, _, okd_dp _ _ _ q1 rx, okd_dp _ _ _ q2 ry, okd_shaped (by decide) q1, okd_shaped (by decide) q2, p m _ H (Ext.refl _ _) R (.bl _)⟩
theorem Good.u64 (G : Good X B) : X.A.units + 64 < cLine := by have := G.un; omega
theorem ee_eq (G : Good X B) (ha : EE X B W a fa) (hb : EE X B W b fb) : EE X B W (.Compare a [.Eq] [b] pos) (bin dEq fa fb) := ee_cmp (op_eqD G.u64) (o2_eq G) ha hb
theorem ee_ne (G : Good X B) (ha : EE X B W a fa) (hb : EE X B W b fb) : EE X B W (.Compare a [.NotEq] [b] pos) (bin dNe fa fb) := ee_cmp (op_neD G.u64) (o2_ne G) ha hb

/-! ### is None -/
def D.isNon : D → Bool
  | .non => true
  | _ => false
theorem isNon_rep {T m : List Addr} {H : Hp} {d : D} {v : V} (r : Rep B T m H d v) : decide (v = .non) = d.isNon := by
  cases r <;> first | rfl | exact decide_eq_false (fun z => nomatch z)
theorem ee_isN (ha : EE X B W a fa) {j pos'} : EE X B W (.Compare a [.Is] [.Constant .none j pos'] pos) (una (fun d h => .ok (.bl d.isNon) h) fa) := by
  obtain ⟨ta, pa, qa⟩ := ha
  refine ⟨_, pe_cmp (pc_isN pa) rfl, fun T m σ H en h Q R Re p => qa T m σ H en h _ R Re (p.bind fun d h1 m1 v H1 x1 R1 r1 p1 => ?_)⟩
  rw [isNon_rep r1]
  exact p1 m1 _ H1 (Ext.refl _ _) R1 (.bl _)
theorem ee_notN (ha : EE X B W a fa) {j pos'} : EE X B W (.Compare a [.IsNot] [.Constant .none j pos'] pos) (una (fun d h => .ok (.bl (!d.isNon)) h) fa) := by
  obtain ⟨ta, pa, qa⟩ := ha
  refine ⟨_, pe_cmp (pc_notN pa) rfl, fun T m σ H en h Q R Re p => qa T m σ H en h _ R Re (p.bind fun d h1 m1 v H1 x1 R1 r1 p1 => ?_)⟩
  rw [isNon_rep r1]
  exact p1 m1 _ H1 (Ext.refl _ _) R1 (.bl _)

/-! ### in, of flat things -/
def D.flat : D → Bool
  | .non => true
  | .bl _ => true
  | .int _ => true
  | .str _ => true
  | _ => false
theorem flat_rep {T m : List Addr} {H : Hp} {d : D} {v : V} (r : Rep B T m H d v) (f : d.flat = true) : flatV v = true := by
  cases r <;> first | rfl | cases f
theorem flats_rep {T m : List Addr} {H : Hp} : ∀ {ds : List D} {vs : List V}, Reps B T m H ds vs → ds.all D.flat = true → vs.all flatV = true
  | _, _, .nil, _ => rfl
  | _, _, .cons r rs, f => by
    rw [List.all_cons, Bool.and_eq_true] at f ⊢
    exact ⟨flat_rep r f.1, flats_rep rs f.2⟩
theorem eqV_rep {T m : List Addr} {H : Hp} {d e : D} {v w : V} (r : Rep B T m H d v) (q : Rep B T m H e w) (f : d.flat = true) (g : e.flat = true) : eqV v w = deqv d e := by
  unfold deqv
  cases r <;> cases q <;> first | (simp [D.flat] at f; done) | (simp [D.flat] at g; done) | (simp [eqV, D.py, PyData.eqv]; done)
theorem inV_rep {T m : List Addr} {H : Hp} {e : D} {w : V} (q : Rep B T m H e w) (g : e.flat = true) : ∀ {ds : List D} {vs : List V}, Reps B T m H ds vs → ds.all D.flat = true → inV w vs = ds.any fun d => deqv d e
  | _, _, .nil, _ => rfl
  | _, _, .cons r rs, f => by
    rw [List.all_cons, Bool.and_eq_true] at f
    have ih := inV_rep q g rs f.2
    unfold inV at ih ⊢
    rw [List.any_cons, List.any_cons, eqV_rep r q f.1 g, ih]
def dIn (neg : Bool) (x y : D) (h : AH) : Res D := match asS h y with
  | some l => bif x.flat && l.all D.flat then .ok (.bl (if neg then !(l.any fun d => deqv d x) else l.any fun d => deqv d x)) h else .stuck
  | none => .stuck
theorem o2_in (G : Good X B) (neg : Bool) : O2 X B (rIn X.K neg) (dIn neg) := by
  intro W T m σ H h Q dx dy x y R rx ry p
  unfold dIn at p
  cases e : asS h dy with
  | none => rw [e] at p; exact p.elim
  | some l =>
    rw [e] at p
    have p : PE_ B W T m σ H Q (bif dx.flat && l.all D.flat then .ok (.bl (if neg then !(l.any fun d => deqv d dx) else l.any fun d => deqv d dx)) h else .stuck) := p
    cases q : dx.flat && l.all D.flat with
    | false => rw [q] at p; exact p.elim
    | true =>
      rw [q] at p
      obtain ⟨q1, q2⟩ := Bool.and_eq_true_iff.mp q
      obtain ⟨ad, xs, rfl, hs, rs⟩ := asS_rep R ry e
      rw [G.K] at hs
      refine ⟨ad, xs, rfl, hs, flat_rep rx q1, flats_rep rs q2, ?_⟩
      rw [inV_rep rx q1 rs q2]
      exact p m _ H (Ext.refl _ _) R (.bl _)
theorem ee_in (G : Good X B) (ha : EE X B W a fa) (hb : EE X B W b fb) (hm : behindInMarks .In b = false := by rfl) : EE X B W (.Compare a [.In] [b] pos) (bin (dIn false) fa fb) := ee_cmp op_in_seq (o2_in G false) ha hb hm
theorem ee_notin (G : Good X B) (ha : EE X B W a fa) (hb : EE X B W b fb) (hm : behindInMarks .NotIn b = false := by rfl) : EE X B W (.Compare a [.NotIn] [b] pos) (bin (dIn true) fa fb) := ee_cmp op_notIn_seq (o2_in G true) ha hb hm

/-! ### a < b < c -/
def chn (o o' : D → D → AH → Res D) (fa fb fc : En → AH → Res D) : En → AH → Res D := fun en h => (fa en h).bind fun x h1 => (fb en h1).bind fun y h2 => (o x y h2).bind fun z h3 => match z with
  | .bl true => (fc en h3).bind fun u h4 => o' y u h4
  | .bl false => .ok (.bl false) h3
  | _ => .stuck
/-- the answer of a comparison of ints is a bool -/
def Ob (o : D → D → AH → Res D) : Prop := ∀ x y h, (∃ b, o x y h = .ok (.bl b) h) ∨ o x y h = .stuck
theorem ob_lt : Ob dLt := fun x y h => by cases x <;> first | (cases y <;> first | exact .inl ⟨_, rfl⟩ | exact .inr rfl) | exact .inr rfl
theorem ob_le : Ob dLe := fun x y h => by cases x <;> first | (cases y <;> first | exact .inl ⟨_, rfl⟩ | exact .inr rfl) | exact .inr rfl
theorem chain_run {r r' : R2} {o o' : D → D → AH → Res D} (h2 : O2 X B r o) (h2' : O2 X B r' o') {ta tb tc : TE} (ha : ∀ T m σ H en h Q, RelH B T m H h → RelE B T m H en σ → PE_ B W T m σ H Q (fa en h) → ta σ H Q)
    (hb : ∀ T m σ H en h Q, RelH B T m H h → RelE B T m H en σ → PE_ B W T m σ H Q (fb en h) → tb σ H Q) (hc : ∀ T m σ H en h Q, RelH B T m H h → RelE B T m H en σ → PE_ B W T m σ H Q (fc en h) → tc σ H Q)
    {T m : List Addr} {σ : St} {H : Hp} {en : En} {h : AH} {Q : VK} (R : RelH B T m H h) (Re : RelE B T m H en σ) (p : PE_ B W T m σ H Q (chn o o' fa fb fc en h)) : tChain r r' ta tb tc σ H Q := by
  refine ha T m σ H en h _ R Re (p.bind fun d h1 m1 v H1 x1 R1 r1 p1 => ?_)
  refine hb T m1 σ H1 en h1 _ R1 (Re.mono x1) (p1.bind fun e hh m2 u H2 x2 R2 r2 p2 => ?_)
  refine h2 W T m2 σ H2 hh _ d e v u R2 (r1.mono x2) r2 (p2.bind fun z h3 m3 zv H3 x3 R3 r3 p3 => ?_)
  cases z with
  | bl k =>
    cases r3
    refine ⟨k, rfl, ?_⟩
    cases k with
    | true =>
      rw [if_pos rfl]
      refine hc T m3 σ H3 en h3 _ R3 ((Re.mono x1).mono (x2.trans x3)) (p3.bind fun w h4 m4 wv H4 x4 R4 r4 p4 => ?_)
      exact h2' W T m4 σ H4 h4 Q e w u wv R4 (r2.mono (x3.trans x4)) r4 p4
    | false =>
      rw [if_neg Bool.false_ne_true]
      exact p3 m3 _ H3 (Ext.refl _ _) R3 (.bl _)
  | _ => exact p3.elim
theorem ee_chain {op op' : CmpOp} {r r' : R2} {o o' : D → D → AH → Res D} (ho : OpR X (compareOp op) r) (ho' : OpR X (compareOp op') r') (h2 : O2 X B r o) (h2' : O2 X B r' o') (ha : EE X B W a fa) (hb : EE X B W b fb) (hc : EE X B W c fc)
    (hm : lastMarks [op, op'] [b, c] = false := by with_unfolding_all rfl) : EE X B W (.Compare a [op, op'] [b, c] pos) (chn o o' fa fb fc) := by
  obtain ⟨ta, pa, qa⟩ := ha
  obtain ⟨tb, pb, qb⟩ := hb
  obtain ⟨tc, pc, qc⟩ := hc
  exact ⟨_, pe_chain ho ho' pa pb pc hm, fun T m σ H en h Q R Re p => chain_run h2 h2' qa qb qc R Re p⟩
end

/-! ### tests -/
/-- the truth of a value -/
def tru (h : AH) : D → Option Bool
  | .non => some false
  | .bl b => some b
  | .int i => some (i != 0)
  | .str x => bif decide (x.length ≤ LIM) then some ((x.length : Int) != 0) else none
  | d => (asS h d).map fun l => !l.isEmpty
def tst (fa : En → AH → Res D) : En → AH → Res Bool := fun en h => (fa en h).bind fun d h1 => match tru h1 d with
  | some b => .ok b h1
  | none => .stuck
theorem isEmpty_rep {B : Tab} {T m : List Addr} {H : Hp} {ds : List D} {xs : List V} (r : Reps B T m H ds xs) : (!ds.isEmpty) = !xs.isEmpty := by cases r <;> rfl
theorem tru_rep {X : Cx} {B : Tab} (G : Good X B) {T m : List Addr} {H : Hp} {h : AH} {d : D} {v : V} {b : Bool} (R : RelH B T m H h) (r : Rep B T m H d v) (e : tru h d = some b) : TruV X.K v H b := by
  have seq : ∀ {l : List D}, asS h d = some l → b = !l.isEmpty → TruV X.K v H b := by
    intro l e2 e3
    obtain ⟨a, xs, rfl, hs, rs⟩ := asS_rep R r e2
    rw [G.K] at hs
    rw [isEmpty_rep rs] at e3
    rcases hs with hs | hs
    · exact .inl ⟨xs, hs, e3⟩
    · exact .inr (.inl ⟨xs, hs, e3⟩)
  have go : ((asS h d).map fun l => !l.isEmpty) = some b → TruV X.K v H b := by
    intro e
    cases e2 : asS h d with
    | none => rw [e2] at e; cases e
    | some l => rw [e2] at e; exact seq e2 (Option.some.inj e).symm
  cases d with
  | non => cases r; exact (Option.some.inj e).symm
  | bl k => cases r; exact (Option.some.inj e).symm
  | int i => cases r; exact (Option.some.inj e).symm
  | str x =>
    cases r
    have e : (bif decide (x.length ≤ LIM) then some ((x.length : Int) != 0) else none) = some b := e
    cases q : decide (x.length ≤ LIM) with
    | false => rw [q] at e; cases e
    | true =>
      rw [q] at e
      exact ⟨by rw [lim_eq]; exact of_decide_eq_true q, (Option.some.inj e).symm⟩
  | tup l => exact go e
  | lst l => exact go e
  | fix l => exact go e
  | ref k => exact go e
  | obj c l => exact go e
section
variable {X : Cx} {B : Tab} {W : WX} {pos : Pos} {a b c : Expr} {rest : List Expr} {fa fb fc : En → AH → Res D} {ga gb : En → AH → Res Bool}
/-- any expression by its truth -/
theorem et_val (G : Good X B) (ha : EE X B W a fa) (he : ∀ whole, isTrue a X.env whole = (do let v ← whole; standAt a.pos; holding [v] (truthy v)) := by intro _; rfl) : ET X B W a (tst fa) := by
  obtain ⟨ta, pa, qa⟩ := ha
  refine ⟨_, pt_truth pa he, fun T m σ H en h Q R Re p => qa T m σ H en h _ R Re (p.bind fun d h1 m1 v H1 x1 R1 r1 p1 => ?_)⟩
  cases q : tru h1 d with
  | none => rw [q] at p1; exact p1.elim
  | some k => rw [q] at p1; exact ⟨k, tru_rep G R1 r1 q, p1 m1 _ H1 (Ext.refl _ _) R1 rfl⟩
/-- the bool of a comparison -/
def asB : D → AH → Res Bool
  | .bl b, h => .ok b h
  | _, _ => .stuck
def tcm (o : D → D → AH → Res D) (fa fb : En → AH → Res D) : En → AH → Res Bool := fun en h => (bin o fa fb en h).bind asB
theorem asB_run {T m : List Addr} {σ : St} {H : Hp} {Q : Bool → Hp → Prop} {d : D} {v : V} {h : AH} (R : RelH B T m H h) (r : Rep B T m H d v) (p : PT_ B W T m σ H Q (asB d h)) : ∃ k, v = .bl k ∧ Q k H := by
  cases r with
  | bl k => exact ⟨k, rfl, p m _ H (Ext.refl _ _) R rfl⟩
  | _ => exact p.elim
theorem et_cmp {op : CmpOp} {r : R2} {o : D → D → AH → Res D} (ho : OpR X (compareOp op) r) (h2 : O2 X B r o) (ha : EE X B W a fa) (hb : EE X B W b fb) (hm : behindInMarks op b = false := by first | exact nomark _ | rfl) : ET X B W (.Compare a [op] [b] pos) (tcm o fa fb) := by
  obtain ⟨ta, pa, qa⟩ := ha
  obtain ⟨tb, pb, qb⟩ := hb
  refine ⟨_, pt_cmpR ho pa pb hm, fun T m σ H en h Q R Re p => o2_run h2 qa qb R Re (p.bind fun d h1 m1 v H1 x1 R1 r1 p1 => asB_run R1 r1 p1)⟩
theorem et_eq (G : Good X B) (ha : EE X B W a fa) (hb : EE X B W b fb) : ET X B W (.Compare a [.Eq] [b] pos) (tcm dEq fa fb) := et_cmp (op_eqD G.u64) (o2_eq G) ha hb
theorem et_ne (G : Good X B) (ha : EE X B W a fa) (hb : EE X B W b fb) : ET X B W (.Compare a [.NotEq] [b] pos) (tcm dNe fa fb) := et_cmp (op_neD G.u64) (o2_ne G) ha hb
theorem et_lt (ha : EE X B W a fa) (hb : EE X B W b fb) : ET X B W (.Compare a [.Lt] [b] pos) (tcm dLt fa fb) := et_cmp op_lt o2_lt ha hb
theorem et_le (ha : EE X B W a fa) (hb : EE X B W b fb) : ET X B W (.Compare a [.LtE] [b] pos) (tcm dLe fa fb) := et_cmp op_le o2_le ha hb
theorem et_gt (ha : EE X B W a fa) (hb : EE X B W b fb) : ET X B W (.Compare a [.Gt] [b] pos) (tcm dGt fa fb) := et_cmp op_gt o2_gt ha hb
theorem et_ge (ha : EE X B W a fa) (hb : EE X B W b fb) : ET X B W (.Compare a [.GtE] [b] pos) (tcm dGe fa fb) := et_cmp op_ge o2_ge ha hb
theorem et_in (G : Good X B) (ha : EE X B W a fa) (hb : EE X B W b fb) (hm : behindInMarks .In b = false := by rfl) : ET X B W (.Compare a [.In] [b] pos) (tcm (dIn false) fa fb) := et_cmp op_in_seq (o2_in G false) ha hb hm
theorem et_notin (G : Good X B) (ha : EE X B W a fa) (hb : EE X B W b fb) (hm : behindInMarks .NotIn b = false := by rfl) : ET X B W (.Compare a [.NotIn] [b] pos) (tcm (dIn true) fa fb) := et_cmp op_notIn_seq (o2_in G true) ha hb hm
theorem et_isN (ha : EE X B W a fa) {j pos'} : ET X B W (.Compare a [.Is] [.Constant .none j pos'] pos) (fun en h => (fa en h).bind fun d h1 => .ok d.isNon h1) := by
  obtain ⟨ta, pa, qa⟩ := ha
  refine ⟨_, pt_cmp (pc_isN pa) rfl, fun T m σ H en h Q R Re p => qa T m σ H en h _ R Re (p.bind fun d h1 m1 v H1 x1 R1 r1 p1 => ?_)⟩
  exact ⟨d.isNon, by rw [isNon_rep r1], p1 m1 _ H1 (Ext.refl _ _) R1 rfl⟩
theorem et_notN (ha : EE X B W a fa) {j pos'} : ET X B W (.Compare a [.IsNot] [.Constant .none j pos'] pos) (fun en h => (fa en h).bind fun d h1 => .ok (!d.isNon) h1) := by
  obtain ⟨ta, pa, qa⟩ := ha
  refine ⟨_, pt_cmp (pc_notN pa) rfl, fun T m σ H en h Q R Re p => qa T m σ H en h _ R Re (p.bind fun d h1 m1 v H1 x1 R1 r1 p1 => ?_)⟩
  exact ⟨!d.isNon, by rw [isNon_rep r1], p1 m1 _ H1 (Ext.refl _ _) R1 rfl⟩
theorem et_chain {op op' : CmpOp} {r r' : R2} {o o' : D → D → AH → Res D} (ho : OpR X (compareOp op) r) (ho' : OpR X (compareOp op') r') (h2 : O2 X B r o) (h2' : O2 X B r' o') (ha : EE X B W a fa) (hb : EE X B W b fb) (hc : EE X B W c fc)
    (hm : lastMarks [op, op'] [b, c] = false := by with_unfolding_all rfl) : ET X B W (.Compare a [op, op'] [b, c] pos) (fun en h => (chn o o' fa fb fc en h).bind asB) := by
  obtain ⟨ta, pa, qa⟩ := ha
  obtain ⟨tb, pb, qb⟩ := hb
  obtain ⟨tc, pc, qc⟩ := hc
  exact ⟨_, pt_chain ho ho' pa pb pc hm, fun T m σ H en h Q R Re p => chain_run h2 h2' qa qb qc R Re (p.bind fun d h1 m1 v H1 x1 R1 r1 p1 => asB_run R1 r1 p1)⟩
def tnot (ga : En → AH → Res Bool) : En → AH → Res Bool := fun en h => (ga en h).bind fun k h1 => .ok (!k) h1
theorem et_not (ha : ET X B W a ga) : ET X B W (.UnaryOp .Not a pos) (tnot ga) := by
  obtain ⟨ta, pa, qa⟩ := ha
  refine ⟨_, pt_not pa, fun T m σ H en h Q R Re p => qa T m σ H en h _ R Re (p.bind fun d h1 m1 v H1 x1 R1 r1 p1 => ?_)⟩
  cases r1
  exact p1 m1 _ H1 (Ext.refl _ _) R1 rfl
def tand (ga gb : En → AH → Res Bool) : En → AH → Res Bool := fun en h => (ga en h).bind fun k h1 => bif k then gb en h1 else .ok false h1
def tor (ga gb : En → AH → Res Bool) : En → AH → Res Bool := fun en h => (ga en h).bind fun k h1 => bif k then .ok true h1 else gb en h1
theorem ew_and1 (ha : ET X B W a ga) : EW X B W (.BoolOp .And [a] pos) ga := let ⟨ta, pa, qa⟩ := ha; ⟨ta, pw_and1 pa, qa⟩
theorem ew_or1 (ha : ET X B W a ga) : EW X B W (.BoolOp .Or [a] pos) ga := let ⟨ta, pa, qa⟩ := ha; ⟨ta, pw_or1 pa, qa⟩
theorem ew_and (ha : ET X B W a ga) (hb : EW X B W (.BoolOp .And (b :: rest) pos) gb) : EW X B W (.BoolOp .And (a :: b :: rest) pos) (tand ga gb) := by
  obtain ⟨ta, pa, qa⟩ := ha
  obtain ⟨tb, pb, qb⟩ := hb
  refine ⟨_, pw_and pa pb, fun T m σ H en h Q R Re p => qa T m σ H en h _ R Re (p.bind fun d h1 m1 v H1 x1 R1 r1 p1 => ?_)⟩
  cases r1
  cases d with
  | true => rw [if_pos rfl]; exact qb T m1 σ H1 en h1 Q R1 (Re.mono x1) p1
  | false => rw [if_neg Bool.false_ne_true]; exact p1 m1 _ H1 (Ext.refl _ _) R1 rfl
theorem ew_or (ha : ET X B W a ga) (hb : EW X B W (.BoolOp .Or (b :: rest) pos) gb) : EW X B W (.BoolOp .Or (a :: b :: rest) pos) (tor ga gb) := by
  obtain ⟨ta, pa, qa⟩ := ha
  obtain ⟨tb, pb, qb⟩ := hb
  refine ⟨_, pw_or pa pb, fun T m σ H en h Q R Re p => qa T m σ H en h _ R Re (p.bind fun d h1 m1 v H1 x1 R1 r1 p1 => ?_)⟩
  cases r1
  cases d with
  | true => rw [if_pos rfl]; exact p1 m1 _ H1 (Ext.refl _ _) R1 rfl
  | false => rw [if_neg Bool.false_ne_true]; exact qb T m1 σ H1 en h1 Q R1 (Re.mono x1) p1
theorem EW.et (ha : EW X B W a ga) : ET X B W a ga := let ⟨ta, pa, qa⟩ := ha; ⟨ta, PW.pt pa, qa⟩

/-! ### and, or, not of bools as values; a if t else b -/
def vand (fa fb : En → AH → Res D) : En → AH → Res D := fun en h => (fa en h).bind fun d h1 => match d with
  | .bl true => fb en h1
  | .bl false => .ok (.bl false) h1
  | _ => .stuck
def vor (fa fb : En → AH → Res D) : En → AH → Res D := fun en h => (fa en h).bind fun d h1 => match d with
  | .bl true => .ok (.bl true) h1
  | .bl false => fb en h1
  | _ => .stuck
def vnot : D → AH → Res D
  | .bl k, h => .ok (.bl (!k)) h
  | _, _ => .stuck
theorem ee_one {op} (ha : EE X B W a fa) : EE X B W (.BoolOp op [a] pos) fa := let ⟨ta, pa, qa⟩ := ha; ⟨ta, pe_one pa, qa⟩
theorem ee_andV (ha : EE X B W a fa) (hb : EE X B W (.BoolOp .And (b :: rest) pos) fb) : EE X B W (.BoolOp .And (a :: b :: rest) pos) (vand fa fb) := by
  obtain ⟨ta, pa, qa⟩ := ha
  obtain ⟨tb, pb, qb⟩ := hb
  refine ⟨_, pe_and pa pb, fun T m σ H en h Q R Re p => qa T m σ H en h _ R Re (p.bind fun d h1 m1 v H1 x1 R1 r1 p1 => ?_)⟩
  cases r1 with
  | bl k =>
    refine ⟨k, rfl, ?_⟩
    cases k with
    | true => rw [if_pos rfl]; exact qb T m1 σ H1 en h1 Q R1 (Re.mono x1) p1
    | false => rw [if_neg Bool.false_ne_true]; exact p1 m1 _ H1 (Ext.refl _ _) R1 (.bl _)
  | _ => exact p1.elim
theorem ee_orV (ha : EE X B W a fa) (hb : EE X B W (.BoolOp .Or (b :: rest) pos) fb) : EE X B W (.BoolOp .Or (a :: b :: rest) pos) (vor fa fb) := by
  obtain ⟨ta, pa, qa⟩ := ha
  obtain ⟨tb, pb, qb⟩ := hb
  refine ⟨_, pe_or pa pb, fun T m σ H en h Q R Re p => qa T m σ H en h _ R Re (p.bind fun d h1 m1 v H1 x1 R1 r1 p1 => ?_)⟩
  cases r1 with
  | bl k =>
    refine ⟨k, rfl, ?_⟩
    cases k with
    | true => rw [if_pos rfl]; exact p1 m1 _ H1 (Ext.refl _ _) R1 (.bl _)
    | false => rw [if_neg Bool.false_ne_true]; exact qb T m1 σ H1 en h1 Q R1 (Re.mono x1) p1
  | _ => exact p1.elim
theorem ee_notV (ha : EE X B W a fa) : EE X B W (.UnaryOp .Not a pos) (una vnot fa) := by
  obtain ⟨ta, pa, qa⟩ := ha
  refine ⟨_, pe_not pa, fun T m σ H en h Q R Re p => qa T m σ H en h _ R Re (p.bind fun d h1 m1 v H1 x1 R1 r1 p1 => ?_)⟩
  cases r1 with
  | bl k => exact ⟨k, rfl, p1 m1 _ H1 (Ext.refl _ _) R1 (.bl _)⟩
  | _ => exact p1.elim
def vif (gc : En → AH → Res Bool) (fa fb : En → AH → Res D) : En → AH → Res D := fun en h => (gc en h).bind fun k h1 => bif k then fa en h1 else fb en h1
theorem ee_if (hc : ET X B W c ga) (ha : EE X B W a fa) (hb : EE X B W b fb) : EE X B W (.IfExp c a b pos) (vif ga fa fb) := by
  obtain ⟨tc, pc, qc⟩ := hc
  obtain ⟨ta, pa, qa⟩ := ha
  obtain ⟨tb, pb, qb⟩ := hb
  refine ⟨_, pe_ifExp pc pa pb, fun T m σ H en h Q R Re p => qc T m σ H en h _ R Re (p.bind fun d h1 m1 v H1 x1 R1 r1 p1 => ?_)⟩
  cases r1
  cases d with
  | true => rw [if_pos rfl]; exact qa T m1 σ H1 en h1 Q R1 (Re.mono x1) p1
  | false => rw [if_neg Bool.false_ne_true]; exact qb T m1 σ H1 en h1 Q R1 (Re.mono x1) p1
end
end Cb
/-! The Cb layer, part 5: displays, subscripts, built-ins, methods of lists, attributes. -/
namespace Cb
open PySem L2

section
variable {X : Cx} {B : Tab} {W : WX} {pos : Pos} {a b c e : Expr} {es : List Expr} {fa fb fc : En → AH → Res D} {fs : En → AH → Res (List D)}
/-! ### argument lists, displays -/
def acons (fa : En → AH → Res D) (fs : En → AH → Res (List D)) : En → AH → Res (List D) := fun en h => (fa en h).bind fun d h1 => (fs en h1).bind fun ds h2 => .ok (d :: ds) h2
theorem ea_nil : EA X B W [] (fun _ h => .ok [] h) := ⟨_, pa_nil, fun T m σ H en h Q R Re p => p m [] H (Ext.refl _ _) R .nil⟩
theorem ea_cons (ha : EE X B W e fa) (hs : EA X B W es fs) (hst : starEach (e :: es) X.env = (false, eval e X.env) :: starEach es X.env := by rfl) : EA X B W (e :: es) (acons fa fs) := by
  obtain ⟨ta, pa, qa⟩ := ha
  obtain ⟨ts, ps, qs⟩ := hs
  refine ⟨_, pa_cons pa ps hst, fun T m σ H en h Q R Re p => qa T m σ H en h _ R Re (p.bind fun d h1 m1 v H1 x1 R1 r1 p1 => ?_)⟩
  refine qs T m1 σ H1 en h1 _ R1 (Re.mono x1) (p1.bind fun ds h2 m2 vs H2 x2 R2 r2 p2 => ?_)
  exact p2 m2 _ H2 (Ext.refl _ _) R2 (.cons (r1.mono x2) r2)
/-- a new tuple; a new list: frozen, mutable -/
def mkT (ds : List D) (h : AH) : Res D := bif decide (ds.length ≤ LIM) then .ok (.tup ds) h else .stuck
def mkF (ds : List D) (h : AH) : Res D := bif decide (ds.length ≤ LIM) then .ok (.lst ds) h else .stuck
def mkC (ds : List D) (h : AH) : Res D := bif decide (ds.length ≤ LIM) then .ok (.ref h.length) (h ++ [.vals ds]) else .stuck
theorem mkT_run {T m : List Addr} {σ : St} {H : Hp} {h : AH} {Q : VK} {ds : List D} {xs : List V} (R : RelH B T m H h) (r : Reps B T m H ds xs) (p : PE_ B W T m σ H Q (mkT ds h)) : xs.length ≤ sizeLine ∧ ∀ a, H a = none → Q (.ref a) (upd H a (.tup xs)) := by
  unfold mkT at p
  cases q : decide (ds.length ≤ LIM) with
  | false => rw [q] at p; exact p.elim
  | true =>
    rw [q] at p
    exact ⟨by rw [lim_eq, ← r.length]; exact of_decide_eq_true q, fun a n => p m _ _ (ext_new n) (R.new n) (rep_tup R r n)⟩
theorem mkF_run {T m : List Addr} {σ : St} {H : Hp} {h : AH} {Q : VK} {ds : List D} {xs : List V} (R : RelH B T m H h) (r : Reps B T m H ds xs) (p : PE_ B W T m σ H Q (mkF ds h)) : xs.length ≤ sizeLine ∧ ∀ a, H a = none → Q (.ref a) (upd H a (.lst xs)) := by
  unfold mkF at p
  cases q : decide (ds.length ≤ LIM) with
  | false => rw [q] at p; exact p.elim
  | true =>
    rw [q] at p
    exact ⟨by rw [lim_eq, ← r.length]; exact of_decide_eq_true q, fun a n => p m _ _ (ext_new n) (R.new n) (rep_lst R r n)⟩
theorem mkC_run {T m : List Addr} {σ : St} {H : Hp} {h : AH} {Q : VK} {ds : List D} {xs : List V} (R : RelH B T m H h) (r : Reps B T m H ds xs) (p : PE_ B W T m σ H Q (mkC ds h)) : xs.length ≤ sizeLine ∧ ∀ a, H a = none → Q (.ref a) (upd H a (.lst xs)) := by
  unfold mkC at p
  cases q : decide (ds.length ≤ LIM) with
  | false => rw [q] at p; exact p.elim
  | true =>
    rw [q] at p
    refine ⟨by rw [lim_eq, ← r.length]; exact of_decide_eq_true q, fun a n => p (m ++ [a]) _ _ (ext_cell n) (R.cellNew n ⟨xs, upd_same, r.mono (ext_cell n)⟩) (.ref ?_)⟩
    rw [← R.len]
    simp
def dsp (mk : List D → AH → Res D) (fs : En → AH → Res (List D)) : En → AH → Res D := fun en h => (fs en h).bind mk
theorem ee_tup {x1} (hs : EA X B W es fs) : EE X B W (.Tuple es x1 pos) (dsp mkT fs) := by
  obtain ⟨ts, ps, qs⟩ := hs
  exact ⟨_, pe_tup ps, fun T m σ H en h Q R Re p => qs T m σ H en h _ R Re (p.bind fun ds h1 m1 vs H1 x1 R1 r1 p1 => mkT_run R1 r1 p1)⟩
theorem ee_lstF (hs : EA X B W es fs) : EE X B W (.List es pos) (dsp mkF fs) := by
  obtain ⟨ts, ps, qs⟩ := hs
  exact ⟨_, pe_lst ps, fun T m σ H en h Q R Re p => qs T m σ H en h _ R Re (p.bind fun ds h1 m1 vs H1 x1 R1 r1 p1 => mkF_run R1 r1 p1)⟩
theorem ee_lstC (hs : EA X B W es fs) : EE X B W (.List es pos) (dsp mkC fs) := by
  obtain ⟨ts, ps, qs⟩ := hs
  exact ⟨_, pe_lst ps, fun T m σ H en h Q R Re p => qs T m σ H en h _ R Re (p.bind fun ds h1 m1 vs H1 x1 R1 r1 p1 => mkC_run R1 r1 p1)⟩

/-! ### subscripts -/
def ixD (x i : D) (h : AH) : Res D := match i with
  | .int i => (match asS h x with
    | some l => (match atI l i with
      | some d => .ok d h
      | none => .stuck)
    | none => .stuck)
  | _ => .stuck
def rIx2 (K : PySem.W.Frag) : R2 := fun x y H Q => rIxL K x y H Q ∨ rIxT K x y H Q
theorem ix2 : IxR X (rIx2 X.K) := ix_list.or ix_tup
theorem o2_ix (G : Good X B) : O2 X B (rIx2 X.K) ixD := by
  intro W T m σ H h Q dx dy x y R rx ry p
  cases ry with
  | int i =>
    have p : PE_ B W T m σ H Q (match asS h dx with
      | some l => (match atI l i with
        | some d => .ok d h
        | none => .stuck)
      | none => .stuck) := p
    cases e : asS h dx with
    | none => rw [e] at p; exact p.elim
    | some l =>
      rw [e] at p
      have p : PE_ B W T m σ H Q (match atI l i with
        | some d => .ok d h
        | none => .stuck) := p
      cases e2 : atI l i with
      | none => rw [e2] at p; exact p.elim
      | some d =>
        rw [e2] at p
        obtain ⟨ad, xs, rfl, hs, rs⟩ := asS_rep R rx e
        obtain ⟨v, ev, rv⟩ := rs.atI e2
        rw [G.K] at hs
        rcases hs with hs | hs
        · exact .inl ⟨ad, xs, i, v, rfl, rfl, hs, ev, p m v H (Ext.refl _ _) R rv⟩
        · exact .inr ⟨ad, xs, i, v, rfl, rfl, hs, ev, p m v H (Ext.refl _ _) R rv⟩
  | _ => exact p.elim
theorem ee_ix (G : Good X B) (ha : EE X B W a fa) (hb : EE X B W b fb) (hs : PlainIx b := by intro _ _; rfl) : EE X B W (.Subscript a b pos) (bin ixD fa fb) := by
  obtain ⟨ta, pa, qa⟩ := ha
  obtain ⟨tb, pb, qb⟩ := hb
  exact ⟨_, pe_ix ix2 pa pb hs, fun T m σ H en h Q R Re p => o2_run (o2_ix G) qa qb R Re p⟩
/-- a part of a slice -/
def EO (X : Cx) (B : Tab) (W : WX) (o : Option Expr) (f : En → AH → Res (Option Int)) : Prop :=
  ∃ t, PO X o t ∧ ∀ T m σ H en h Q, RelH B T m H h → RelE B T m H en σ → Po (fun _ _ a b => b = a) B W T m σ H Q (f en h) → t σ H Q
theorem eo_none : EO X B W none (fun _ h => .ok none h) := ⟨_, po_none, fun T m σ H en h Q R Re p => p m none H (Ext.refl _ _) R rfl⟩
def asI : D → AH → Res (Option Int)
  | .int i, h => .ok (some i) h
  | _, _ => .stuck
theorem eo_some (ha : EE X B W a fa) : EO X B W (some a) (fun en h => (fa en h).bind asI) := by
  obtain ⟨ta, pa, qa⟩ := ha
  refine ⟨_, po_some pa, fun T m σ H en h Q R Re p => qa T m σ H en h _ R Re (p.bind fun d h1 m1 v H1 x1 R1 r1 p1 => ?_)⟩
  cases r1 with
  | int i => exact ⟨i, rfl, p1 m1 _ H1 (Ext.refl _ _) R1 rfl⟩
  | _ => exact p1.elim
/-- the items of a cut -/
def cutD (l : List D) (lo hi : Option Int) : List D := (l.drop (HT.sIx l.length 0 lo)).take (HT.sIx l.length l.length hi - HT.sIx l.length 0 lo)
theorem cut_rep {T m : List Addr} {H : Hp} {ds : List D} {xs : List V} (r : Reps B T m H ds xs) (lo hi : Option Int) : Reps B T m H (cutD ds lo hi) (cutV xs lo hi) := by
  unfold cutD cutV
  rw [r.length]
  exact (r.drop _).take _
def slL (mk : List D → AH → Res D) (x : D) (lo hi : Option Int) (h : AH) : Res D := match asL h x with
  | some l => mk (cutD l lo hi) h
  | none => .stuck
def slc (mk : List D → AH → Res D) (fa : En → AH → Res D) (fl fh : En → AH → Res (Option Int)) : En → AH → Res D := fun en h => (fa en h).bind fun x h1 => (fl en h1).bind fun lo h2 => (fh en h2).bind fun hi h3 => slL mk x lo hi h3
theorem ee_slice {mk : List D → AH → Res D} (G : Good X B) {lo hi : Option Expr} {p2 : Pos} {fl fh : En → AH → Res (Option Int)} (hmk : ∀ (W : WX) T m σ H h Q ds xs, RelH B T m H h → Reps B T m H ds xs → PE_ B W T m σ H Q (mk ds h) → xs.length ≤ sizeLine ∧ ∀ a, H a = none → Q (.ref a) (upd H a (.lst xs)))
    (ha : EE X B W a fa) (hl : EO X B W lo fl) (hh : EO X B W hi fh) : EE X B W (.Subscript a (.Slice lo hi none p2) pos) (slc mk fa fl fh) := by
  obtain ⟨ta, pa, qa⟩ := ha
  obtain ⟨tl, pl, ql⟩ := hl
  obtain ⟨th, ph, qh⟩ := hh
  refine ⟨_, pe_slice sl_list pa pl ph, fun T m σ H en h Q R Re p => qa T m σ H en h _ R Re (p.bind fun d h1 m1 v H1 x1 R1 r1 p1 => ?_)⟩
  refine ql T m1 σ H1 en h1 _ R1 (Re.mono x1) (p1.bind fun lo' h2 m2 v2 H2 x2 R2 r2 p2 => ?_)
  refine qh T m2 σ H2 en h2 _ R2 ((Re.mono x1).mono x2) (p2.bind fun hi' h3 m3 v3 H3 x3 R3 r3 p3 => ?_)
  subst r2 r3
  unfold slL at p3
  cases e : asL h3 d with
  | none => rw [e] at p3; exact p3.elim
  | some l =>
    rw [e] at p3
    obtain ⟨ad, xs, rfl, hs, rs⟩ := asL_rep R3 ((r1.mono x2).mono x3) e
    rw [G.K] at hs
    obtain ⟨_, z⟩ := hmk W T m3 σ H3 h3 Q _ _ R3 (cut_rep rs _ _) p3
    exact ⟨ad, xs, rfl, hs, z⟩
/-- xs[::-1] -/
theorem ee_rev {mk : List D → AH → Res D} (G : Good X B) {k : Nat} {p1 p2 p3 : Pos} (hmk : ∀ (W : WX) T m σ H h Q ds xs, RelH B T m H h → Reps B T m H ds xs → PE_ B W T m σ H Q (mk ds h) → xs.length ≤ sizeLine ∧ ∀ a, H a = none → Q (.ref a) (upd H a (.lst xs)))
    (ha : EE X B W a fa) : EE X B W (.Subscript a (.Slice none none (some (.UnaryOp .USub (.Constant (.int 1) k p1) p2)) p3) pos) (fun en h => (fa en h).bind fun x h1 => match asL h1 x with
      | some l => mk l.reverse h1
      | none => .stuck) := by
  obtain ⟨ta, pa, qa⟩ := ha
  refine ⟨_, pe_revL pa, fun T m σ H en h Q R Re p => qa T m σ H en h _ R Re (p.bind fun d h1 m1 v H1 x1 R1 r1 p1 => ?_)⟩
  cases e : asL h1 d with
  | none => rw [e] at p1; exact p1.elim
  | some l =>
    rw [e] at p1
    obtain ⟨ad, xs, rfl, hs, rs⟩ := asL_rep R1 r1 e
    rw [G.K] at hs
    obtain ⟨_, z⟩ := hmk W T m1 σ H1 h1 Q _ _ R1 rs.reverse p1
    exact ⟨ad, xs, rfl, hs, z⟩
end

/-! ### built-ins by values -/
def C1 (B : Tab) (r : List V → Hp → VK → Prop) (o : List D → AH → Res D) : Prop :=
  ∀ (W : WX) T m σ H h Q ds vs, RelH B T m H h → Reps B T m H ds vs → PE_ B W T m σ H Q (o ds h) → r vs H Q
section
variable {X : Cx} {B : Tab} {W : WX} {pos p : Pos} {x : Str} {e : Expr} {es : List Expr} {fs : En → AH → Res (List D)} {r : List V → Hp → VK → Prop} {o : List D → AH → Res D}
theorem ee_callB {id : String} (hc : CallR X (.builtin id) r) (h1 : C1 B r o) (hm : X.mg x = none) (hv : bootBuiltins x = some (.builtin id)) (ha : EA X B W (e :: es) fs) (hg : Gl X x := by rfl) (hn : x ≠ "__name__" := by decide) (hdb : (x == ("__debug__" : Str)) = false := by decide)
    (he : starEach (e :: es) X.env = (false, eval e X.env) :: starEach es X.env := by rfl) (hpl : (backTo pos (starEach es X.env)).any (·.1) = false := by rfl) : EE X B W (.Call (.Name x p) (e :: es) [] pos) (dsp o fs) := by
  obtain ⟨ts, ps, qs⟩ := ha
  exact ⟨_, pe_callB hc hg hm hv ps hn hdb he hpl, fun T m σ H en h Q R Re p => qs T m σ H en h _ R Re (p.bind fun ds h1' m1 vs H1 x1 R1 r1 p1 => h1 W T m1 σ H1 h1' Q ds vs R1 r1 p1)⟩
theorem ee_callTy {Ty : String} (hc : CallR X (.type Ty) r) (h1 : C1 B r o) (hm : X.mg x = none) (hv : bootBuiltins x = some (.type Ty)) (ha : EA X B W (e :: es) fs) (hg : Gl X x := by rfl) (hn : x ≠ "__name__" := by decide) (hdb : (x == ("__debug__" : Str)) = false := by decide)
    (he : starEach (e :: es) X.env = (false, eval e X.env) :: starEach es X.env := by rfl) (hpl : (backTo pos (starEach es X.env)).any (·.1) = false := by rfl) : EE X B W (.Call (.Name x p) (e :: es) [] pos) (dsp o fs) := by
  obtain ⟨ts, ps, qs⟩ := ha
  exact ⟨_, pe_callTy hc hg hm hv ps hn hdb he hpl, fun T m σ H en h Q R Re p => qs T m σ H en h _ R Re (p.bind fun ds h1' m1 vs H1 x1 R1 r1 p1 => h1 W T m1 σ H1 h1' Q ds vs R1 r1 p1)⟩
theorem ee_callF {id : String} (hc : CallR X (.builtin id) r) (h1 : C1 B r o) (hm : X.mg x = some (.builtin id)) (ha : EA X B W (e :: es) fs) (hg : Gl X x := by rfl) (hdb : (x == ("__debug__" : Str)) = false := by decide)
    (he : starEach (e :: es) X.env = (false, eval e X.env) :: starEach es X.env := by rfl) (hpl : (backTo pos (starEach es X.env)).any (·.1) = false := by rfl) : EE X B W (.Call (.Name x p) (e :: es) [] pos) (dsp o fs) := by
  obtain ⟨ts, ps, qs⟩ := ha
  exact ⟨_, pe_callBfun hc hg hm ps hdb he hpl, fun T m σ H en h Q R Re p => qs T m σ H en h _ R Re (p.bind fun ds h1' m1 vs H1 x1 R1 r1 p1 => h1 W T m1 σ H1 h1' Q ds vs R1 r1 p1)⟩
/-! len, abs, max and min of two, int, tuple, list -/
def bLen : List D → AH → Res D
  | [d], h => (match asS h d with
    | some l => .ok (.int l.length) h
    | none => .stuck)
  | _, _ => .stuck
theorem Reps.one {T m : List Addr} {H : Hp} {d : D} {vs : List V} (r : Reps B T m H [d] vs) : ∃ v, vs = [v] ∧ Rep B T m H d v := by
  cases r with
  | cons r1 r2 => cases r2; exact ⟨_, rfl, r1⟩
theorem Reps.two {T m : List Addr} {H : Hp} {d e : D} {vs : List V} (r : Reps B T m H [d, e] vs) : ∃ v w, vs = [v, w] ∧ Rep B T m H d v ∧ Rep B T m H e w := by
  cases r with
  | cons r1 r2 =>
    obtain ⟨w, rfl, r3⟩ := r2.one
    exact ⟨_, _, rfl, r1, r3⟩
theorem c1_len (G : Good X B) : C1 B (fun xs H Q => ∃ p ys, xs = [.ref p] ∧ (SqL X.K H p ys ∨ SqT X.K H p ys) ∧ Q (.int ys.length) H) bLen := by
  intro W T m σ H h Q ds vs R rs p
  match ds, rs, p with
  | [d], rs, p =>
    obtain ⟨v, rfl, r⟩ := rs.one
    have p : PE_ B W T m σ H Q (match asS h d with
      | some l => .ok (.int l.length) h
      | none => .stuck) := p
    cases e : asS h d with
    | none => rw [e] at p; exact p.elim
    | some l =>
      rw [e] at p
      obtain ⟨ad, xs, rfl, hs, rl⟩ := asS_rep R r e
      rw [G.K] at hs
      refine ⟨ad, xs, rfl, hs, ?_⟩
      rw [← rl.length]
      exact p m _ H (Ext.refl _ _) R (.int _)
  | [], _, p => exact p.elim
  | _ :: _ :: _, _, p => exact p.elim
theorem ee_len (G : Good X B) (hm : X.mg "len" = none) {a : Expr} {fs : En → AH → Res (List D)} (ha : EA X B W [a] fs) (hg : Gl X "len" := by rfl)
    (he : starEach [a] X.env = (false, eval a X.env) :: starEach [] X.env := by rfl) (hpl : (backTo pos (starEach [] X.env)).any (·.1) = false := by rfl) : EE X B W (.Call (.Name "len" p) [a] [] pos) (dsp bLen fs) := ee_callB call_len_seq (c1_len G) hm PySem.boot_len ha hg (by decide) (by decide) he hpl
def bAbs : List D → AH → Res D
  | [d], h => (match d with
    | .int i => .ok (.int (if i < 0 then -i else i)) h
    | _ => .stuck)
  | _, _ => .stuck
theorem c1_abs : C1 B (fun xs H Q => ∃ i, xs = [.int i] ∧ Q (.int (if i < 0 then -i else i)) H) bAbs := by
  intro W T m σ H h Q ds vs R rs p
  match ds, rs, p with
  | [d], rs, p =>
    obtain ⟨v, rfl, r⟩ := rs.one
    cases r with
    | int i => exact ⟨i, rfl, p m _ H (Ext.refl _ _) R (.int _)⟩
    | _ => exact p.elim
  | [], _, p => exact p.elim
  | _ :: _ :: _, _, p => exact p.elim
def bMax2 : List D → AH → Res D
  | [.int i, .int j], h => .ok (.int (if j > i then j else i)) h
  | _, _ => .stuck
def bMin2 : List D → AH → Res D
  | [.int i, .int j], h => .ok (.int (if j < i then j else i)) h
  | _, _ => .stuck
theorem two_ints {W : WX} {T m : List Addr} {σ : St} {H : Hp} {h : AH} {Q : VK} {o : List D → AH → Res D} {ds : List D} {vs : List V} (rs : Reps B T m H ds vs) (p : PE_ B W T m σ H Q (o ds h)) (hn : ∀ ds h, (∀ i j, ds ≠ [.int i, .int j]) → o ds h = .stuck) : ∃ i j, ds = [.int i, .int j] ∧ vs = [.int i, .int j] := by
  by_cases z : ∃ i j, ds = [.int i, .int j]
  · obtain ⟨i, j, rfl⟩ := z
    obtain ⟨v, w, rfl, r1, r2⟩ := rs.two
    cases r1; cases r2
    exact ⟨i, j, rfl, rfl⟩
  · rw [hn ds h (fun i j e => z ⟨i, j, e⟩)] at p
    exact p.elim
theorem c1_max2 : C1 B (fun xs H Q => ∃ i j, xs = [.int i, .int j] ∧ Q (.int (if j > i then j else i)) H) bMax2 := by
  intro W T m σ H h Q ds vs R rs p
  obtain ⟨i, j, rfl, rfl⟩ := two_ints rs p (fun ds h z => by unfold bMax2; split <;> first | exact absurd rfl (z _ _) | rfl)
  exact ⟨i, j, rfl, p m _ H (Ext.refl _ _) R (.int _)⟩
theorem c1_min2 : C1 B (fun xs H Q => ∃ i j, xs = [.int i, .int j] ∧ Q (.int (if j < i then j else i)) H) bMin2 := by
  intro W T m σ H h Q ds vs R rs p
  obtain ⟨i, j, rfl, rfl⟩ := two_ints rs p (fun ds h z => by unfold bMin2; split <;> first | exact absurd rfl (z _ _) | rfl)
  exact ⟨i, j, rfl, p m _ H (Ext.refl _ _) R (.int _)⟩
def bGcd : List D → AH → Res D
  | [.int i, .int j], h => .ok (.int ((Nat.gcd i.natAbs j.natAbs : Nat) : Int)) h
  | _, _ => .stuck
theorem c1_gcd : C1 B rGcd bGcd := by
  intro W T m σ H h Q ds vs R rs p
  obtain ⟨i, j, rfl, rfl⟩ := two_ints rs p (fun ds h z => by unfold bGcd; split <;> first | exact absurd rfl (z _ _) | rfl)
  exact ⟨i, j, rfl, p m _ H (Ext.refl _ _) R (.int _)⟩
def bInt : List D → AH → Res D
  | [d], h => (match d with
    | .int i => .ok (.int i) h
    | .bl k => .ok (.int (if k then 1 else 0)) h
    | _ => .stuck)
  | _, _ => .stuck
theorem c1_int : C1 B (fun xs H Q => (∃ i, xs = [.int i] ∧ Q (.int i) H) ∨ ∃ k, xs = [.bl k] ∧ Q (.int (if k then 1 else 0)) H) bInt := by
  intro W T m σ H h Q ds vs R rs p
  match ds, rs, p with
  | [d], rs, p =>
    obtain ⟨v, rfl, r⟩ := rs.one
    cases r with
    | int i => exact .inl ⟨i, rfl, p m _ H (Ext.refl _ _) R (.int _)⟩
    | bl k => exact .inr ⟨k, rfl, p m _ H (Ext.refl _ _) R (.int _)⟩
    | _ => exact p.elim
  | [], _, p => exact p.elim
  | _ :: _ :: _, _, p => exact p.elim
def bTup : List D → AH → Res D
  | [d], h => (match d with
    | .tup l => .ok (.tup l) h
    | d => (match asL h d with
      | some l => mkT l h
      | none => .stuck))
  | _, _ => .stuck
theorem c1_tup (G : Good X B) : C1 B (fun xs H Q => ∃ p ys, xs = [.ref p] ∧ ((SqL X.K H p ys ∧ ∀ l, H l = none → Q (.ref l) (upd H l (.tup ys))) ∨ (SqT X.K H p ys ∧ Q (.ref p) H))) bTup := by
  intro W T m σ H h Q ds vs R rs p
  match ds, rs, p with
  | [d], rs, p =>
    obtain ⟨v, rfl, r⟩ := rs.one
    have go : PE_ B W T m σ H Q (match asL h d with
      | some l => mkT l h
      | none => .stuck) → ∃ p ys, [v] = [.ref p] ∧ ((SqL X.K H p ys ∧ ∀ l, H l = none → Q (.ref l) (upd H l (.tup ys))) ∨ (SqT X.K H p ys ∧ Q (.ref p) H)) := by
      intro p
      cases e : asL h d with
      | none => rw [e] at p; exact p.elim
      | some l =>
        rw [e] at p
        obtain ⟨ad, xs, rfl, hs, rl⟩ := asL_rep R r e
        rw [G.K] at hs
        exact ⟨ad, xs, rfl, .inl ⟨hs, (mkT_run R rl p).2⟩⟩
    cases d with
    | tup l =>
      cases r with
      | tup h1 h2 hr rl => exact ⟨_, _, rfl, .inr ⟨SqT.of hr, p m _ H (Ext.refl _ _) R (.tup h1 h2 hr rl)⟩⟩
    | lst l => exact go p
    | ref l => exact go p
    | fix l => exact go p
    | non => exact p.elim
    | bl _ => exact p.elim
    | int _ => exact p.elim
    | str _ => exact p.elim
    | obj _ _ => exact p.elim
  | [], _, p => exact p.elim
  | _ :: _ :: _, _, p => exact p.elim
/-- list(x): frozen, mutable -/
def bLst (mk : List D → AH → Res D) : List D → AH → Res D
  | [d], h => (match asS h d with
    | some l => mk l h
    | none => .stuck)
  | _, _ => .stuck
theorem c1_lst (G : Good X B) {mk : List D → AH → Res D} (hmk : ∀ (W : WX) T m σ H h Q ds xs, RelH B T m H h → Reps B T m H ds xs → PE_ B W T m σ H Q (mk ds h) → xs.length ≤ sizeLine ∧ ∀ a, H a = none → Q (.ref a) (upd H a (.lst xs))) :
    C1 B (fun xs H Q => ∃ p ys, xs = [.ref p] ∧ (SqL X.K H p ys ∨ SqT X.K H p ys) ∧ ∀ l, H l = none → Q (.ref l) (upd H l (.lst ys))) (bLst mk) := by
  intro W T m σ H h Q ds vs R rs p
  match ds, rs, p with
  | [d], rs, p =>
    obtain ⟨v, rfl, r⟩ := rs.one
    have p : PE_ B W T m σ H Q (match asS h d with
      | some l => mk l h
      | none => .stuck) := p
    cases e : asS h d with
    | none => rw [e] at p; exact p.elim
    | some l =>
      rw [e] at p
      obtain ⟨ad, xs, rfl, hs, rl⟩ := asS_rep R r e
      rw [G.K] at hs
      exact ⟨ad, xs, rfl, hs, (hmk W T m σ H h Q _ _ R rl p).2⟩
  | [], _, p => exact p.elim
  | _ :: _ :: _, _, p => exact p.elim
/-- ints of a list of data -/
def intsOf : List D → Option (List Int)
  | [] => some []
  | .int i :: l => (intsOf l).map (i :: ·)
  | _ :: _ => none
theorem intsOf_eq : ∀ {l : List D} {ns : List Int}, intsOf l = some ns → l = ns.map D.int
  | [], ns, h => by cases h; rfl
  | .int i :: l, ns, h => by
    have h : (intsOf l).map (i :: ·) = some ns := h
    cases e : intsOf l with
    | none => rw [e] at h; cases h
    | some ms => rw [e] at h; cases h; rw [intsOf_eq e]; rfl
theorem intsOf_ints : ∀ ns : List Int, intsOf (ns.map D.int) = some ns
  | [] => rfl
  | i :: ns => by show (intsOf (ns.map D.int)).map (i :: ·) = _; rw [intsOf_ints ns]; rfl
def bInts (o : List Int → AH → Res D) : List D → AH → Res D
  | [d], h => (match (asL h d).bind intsOf with
    | some ns => o ns h
    | none => .stuck)
  | _, _ => .stuck
theorem ints_run (G : Good X B) {W : WX} {T m : List Addr} {σ : St} {H : Hp} {h : AH} {Q : VK} {o : List Int → AH → Res D} {ds : List D} {vs : List V} (R : RelH B T m H h) (rs : Reps B T m H ds vs) (p : PE_ B W T m σ H Q (bInts o ds h)) :
    ∃ a ns, vs = [V.ref a] ∧ SqL X.K H a (ns.map V.int) ∧ PE_ B W T m σ H Q (o ns h) := by
  match ds, rs, p with
  | [d], rs, p =>
    obtain ⟨v, rfl, r⟩ := rs.one
    have p : PE_ B W T m σ H Q (match (asL h d).bind intsOf with
      | some ns => o ns h
      | none => .stuck) := p
    cases e : asL h d with
    | none => rw [e] at p; exact p.elim
    | some l =>
      rw [e] at p
      have p : PE_ B W T m σ H Q (match intsOf l with
        | some ns => o ns h
        | none => .stuck) := p
      cases e2 : intsOf l with
      | none => rw [e2] at p; exact p.elim
      | some ns =>
        rw [e2] at p
        obtain ⟨ad, xs, rfl, hs, rl⟩ := asL_rep R r e
        rw [intsOf_eq e2] at rl
        rw [Reps.ints_inv rl, G.K] at hs
        exact ⟨ad, ns, rfl, hs, p⟩
  | [], _, p => exact p.elim
  | _ :: _ :: _, _, p => exact p.elim
def bSum : List D → AH → Res D := bInts fun ns h => .ok (.int ns.sum) h
theorem c1_sum (G : Good X B) : C1 B (rSum X.K) bSum := by
  intro W T m σ H h Q ds vs R rs p
  obtain ⟨a, ns, rfl, hs, p⟩ := ints_run G R rs p
  exact ⟨a, ns, rfl, hs, p m _ H (Ext.refl _ _) R (.int _)⟩
def mxI : List Int → Int
  | [] => 0
  | i :: l => l.foldl (fun a b => if a < b then b else a) i
def mnI : List Int → Int
  | [] => 0
  | i :: l => l.foldl (fun a b => if b < a then b else a) i
theorem mx_fold : ∀ (l : List Int) (i : Int), (∀ y, y ∈ i :: l → y ≤ l.foldl (fun a b => if a < b then b else a) i) ∧ l.foldl (fun a b => if a < b then b else a) i ∈ i :: l
  | [], i => ⟨fun y hy => by simp at hy; subst hy; exact Int.le_refl _, by simp⟩
  | j :: l, i => by
    have q : i ≤ (if i < j then j else i) ∧ j ≤ (if i < j then j else i) := by split <;> omega
    obtain ⟨h1, h2⟩ := mx_fold l (if i < j then j else i)
    have e : (j :: l).foldl (fun a b => if a < b then b else a) i = l.foldl (fun a b => if a < b then b else a) (if i < j then j else i) := rfl
    rw [e]
    refine ⟨fun y hy => ?_, ?_⟩
    · have h0 := h1 _ List.mem_cons_self
      rcases List.mem_cons.mp hy with rfl | hy
      · omega
      · rcases List.mem_cons.mp hy with rfl | hy
        · omega
        · exact h1 y (List.mem_cons_of_mem _ hy)
    · rcases List.mem_cons.mp h2 with h2 | h2
      · rw [h2]; split <;> simp
      · exact List.mem_cons_of_mem _ (List.mem_cons_of_mem _ h2)
theorem mn_fold : ∀ (l : List Int) (i : Int), (∀ y, y ∈ i :: l → l.foldl (fun a b => if b < a then b else a) i ≤ y) ∧ l.foldl (fun a b => if b < a then b else a) i ∈ i :: l
  | [], i => ⟨fun y hy => by simp at hy; subst hy; exact Int.le_refl _, by simp⟩
  | j :: l, i => by
    have q : (if j < i then j else i) ≤ i ∧ (if j < i then j else i) ≤ j := by split <;> omega
    obtain ⟨h1, h2⟩ := mn_fold l (if j < i then j else i)
    have e : (j :: l).foldl (fun a b => if b < a then b else a) i = l.foldl (fun a b => if b < a then b else a) (if j < i then j else i) := rfl
    rw [e]
    refine ⟨fun y hy => ?_, ?_⟩
    · have h0 := h1 _ List.mem_cons_self
      rcases List.mem_cons.mp hy with rfl | hy
      · omega
      · rcases List.mem_cons.mp hy with rfl | hy
        · omega
        · exact h1 y (List.mem_cons_of_mem _ hy)
    · rcases List.mem_cons.mp h2 with h2 | h2
      · rw [h2]; split <;> simp
      · exact List.mem_cons_of_mem _ (List.mem_cons_of_mem _ h2)
def bMaxL : List D → AH → Res D := bInts fun ns h => match ns with
  | [] => .stuck
  | i :: l => .ok (.int (mxI (i :: l))) h
def bMinL : List D → AH → Res D := bInts fun ns h => match ns with
  | [] => .stuck
  | i :: l => .ok (.int (mnI (i :: l))) h
theorem c1_maxL (G : Good X B) : C1 B (rMax X.K) bMaxL := by
  intro W T m σ H h Q ds vs R rs p
  obtain ⟨a, ns, rfl, hs, p⟩ := ints_run G R rs p
  cases ns with
  | nil => exact p.elim
  | cons i l =>
    obtain ⟨h1, h2⟩ := mx_fold l i
    refine ⟨a, i :: l, rfl, hs, by simp, fun k hk hle => ?_⟩
    have e : k = mxI (i :: l) := Int.le_antisymm (h1 k hk) (hle _ h2)
    rw [e]
    exact p m _ H (Ext.refl _ _) R (.int _)
theorem c1_minL (G : Good X B) : C1 B (rMin X.K) bMinL := by
  intro W T m σ H h Q ds vs R rs p
  obtain ⟨a, ns, rfl, hs, p⟩ := ints_run G R rs p
  cases ns with
  | nil => exact p.elim
  | cons i l =>
    obtain ⟨h1, h2⟩ := mn_fold l i
    refine ⟨a, i :: l, rfl, hs, by simp, fun k hk hle => ?_⟩
    have e : k = mnI (i :: l) := Int.le_antisymm (hle _ h2) (h1 k hk)
    rw [e]
    exact p m _ H (Ext.refl _ _) R (.int _)
def blsOf : List D → Option (List Bool)
  | [] => some []
  | .bl i :: l => (blsOf l).map (i :: ·)
  | _ :: _ => none
theorem blsOf_eq : ∀ {l : List D} {ns : List Bool}, blsOf l = some ns → l = ns.map D.bl
  | [], ns, h => by cases h; rfl
  | .bl i :: l, ns, h => by
    have h : (blsOf l).map (i :: ·) = some ns := h
    cases e : blsOf l with
    | none => rw [e] at h; cases h
    | some ms => rw [e] at h; cases h; rw [blsOf_eq e]; rfl
theorem blsOf_bls : ∀ ns : List Bool, blsOf (ns.map D.bl) = some ns
  | [] => rfl
  | i :: ns => by show (blsOf (ns.map D.bl)).map (i :: ·) = _; rw [blsOf_bls ns]; rfl
theorem Reps.bls_inv {T m : List Addr} {H : Hp} : ∀ {l : List Bool} {xs : List V}, Reps B T m H (l.map D.bl) xs → xs = l.map V.bl
  | [], _, .nil => rfl
  | i :: l, _, .cons r rs => by cases r; rw [Reps.bls_inv rs]; rfl
def bBls (o : List Bool → Bool) : List D → AH → Res D
  | [d], h => (match (asL h d).bind blsOf with
    | some ns => .ok (.bl (o ns)) h
    | none => .stuck)
  | _, _ => .stuck
theorem bls_run (G : Good X B) {W : WX} {T m : List Addr} {σ : St} {H : Hp} {h : AH} {Q : VK} {o : List Bool → Bool} {ds : List D} {vs : List V} (R : RelH B T m H h) (rs : Reps B T m H ds vs) (p : PE_ B W T m σ H Q (bBls o ds h)) :
    ∃ a ns, vs = [V.ref a] ∧ SqL X.K H a (ns.map V.bl) ∧ Q (.bl (o ns)) H := by
  match ds, rs, p with
  | [d], rs, p =>
    obtain ⟨v, rfl, r⟩ := rs.one
    have p : PE_ B W T m σ H Q (match (asL h d).bind blsOf with
      | some ns => .ok (.bl (o ns)) h
      | none => .stuck) := p
    cases e : asL h d with
    | none => rw [e] at p; exact p.elim
    | some l =>
      rw [e] at p
      have p : PE_ B W T m σ H Q (match blsOf l with
        | some ns => .ok (.bl (o ns)) h
        | none => .stuck) := p
      cases e2 : blsOf l with
      | none => rw [e2] at p; exact p.elim
      | some ns =>
        rw [e2] at p
        obtain ⟨ad, xs, rfl, hs, rl⟩ := asL_rep R r e
        rw [blsOf_eq e2] at rl
        rw [Reps.bls_inv rl, G.K] at hs
        exact ⟨ad, ns, rfl, hs, p m _ H (Ext.refl _ _) R (.bl _)⟩
  | [], _, p => exact p.elim
  | _ :: _ :: _, _, p => exact p.elim
def bAll : List D → AH → Res D := bBls fun l => l.all id
def bAny : List D → AH → Res D := bBls fun l => l.any id
theorem c1_all (G : Good X B) : C1 B (rAll X.K) bAll := fun W T m σ H h Q ds vs R rs p => let ⟨a, ns, e, hs, q⟩ := bls_run G R rs p; ⟨a, ns, e, hs, q⟩
theorem c1_any (G : Good X B) : C1 B (rAny X.K) bAny := fun W T m σ H h Q ds vs R rs p => let ⟨a, ns, e, hs, q⟩ := bls_run G R rs p; ⟨a, ns, e, hs, q⟩
end
end Cb
/-! The Cb layer, part 6: kinds, sorting, methods of lists, slots. -/
namespace Cb
open PySem L2

/-! ### isinstance -/
inductive Ty where | non | bl | int | str | tup | lst | dct
def Ty.nm : Ty → String
  | .non => "NoneType" | .bl => "bool" | .int => "int" | .str => "str" | .tup => "tuple" | .lst => "list" | .dct => "dict"
def tyC : Option Cell → Option Ty
  | some (.vals _) => some .lst
  | some (.dK _) => some .dct
  | some (.dT _) => some .dct
  | none => none
def tyD (h : AH) : D → Option Ty
  | .non => some .non
  | .bl _ => some .bl
  | .int _ => some .int
  | .str _ => some .str
  | .tup _ => some .tup
  | .lst _ => some .lst
  | .fix _ => some .lst
  | .ref k => tyC h[k]?
  | .obj _ _ => none
/-- is a thing of the first kind one of the second -/
def isTy : Ty → Ty → Bool
  | .non, .non => true
  | .bl, .bl => true
  | .bl, .int => true
  | .int, .int => true
  | .str, .str => true
  | .tup, .tup => true
  | .lst, .lst => true
  | .dct, .dct => true
  | _, _ => false
theorem kit_isTy (K : PySem.W.Frag) (a b : Ty) (hb : b = .int ∨ b = .bl ∨ b = .tup ∨ b = .lst) : PySem.W.kitOne K (.type a.nm) (.type b.nm) = some (isTy a b) := by
  rcases hb with rfl | rfl | rfl | rfl <;> cases a <;> exact kit_ty (by decide +kernel)
theorem tyD_rep {B : Tab} {T m : List Addr} {H : Hp} {h : AH} (R : RelH B T m H h) {d : D} {v : V} {t : Ty} (r : Rep B T m H d v) (e : tyD h d = some t) : TyX B.K H v (.type t.nm) := by
  cases r with
  | non => cases e; exact .base .non
  | bl b => cases e; exact .base (.bl b)
  | int i => cases e; exact .base (.int i)
  | str x => cases e; exact .base (.str x)
  | tup h1 h2 hr rs => cases e; exact .base (.tup hr)
  | lst h1 h2 hr rs => cases e; exact .base (.lst hr)
  | fix hf =>
    cases e
    rcases hf with ⟨_, _, q⟩ | ⟨o, its, n, h1, h2, _⟩
    · rcases q with q | ⟨o, q⟩
      · exact .base (.lst q)
      · exact .base (.frz q)
    · exact .kList h1 h2
  | @ref k a hk =>
    have e : tyC h[k]? = some t := e
    cases q : h[k]? with
    | none => rw [q] at e; cases e
    | some c =>
      rw [q] at e
      obtain ⟨a', e1, z⟩ := R.cell k c q
      rw [hk] at e1
      cases e1
      cases c <;> (obtain ⟨xs, e2, _⟩ := z; cases e)
      · exact .base (.lst e2)
      · exact .base (.dK e2)
      · exact .base (.dT e2)
  | obj => cases e
section
variable {X : Cx} {B : Tab} {W : WX} {pos p p1 p2 p3 : Pos} {a : Expr} {fa : En → AH → Res D}
def isi (t : Ty) (d : D) (h : AH) : Res D := match tyD h d with
  | some u => .ok (.bl (isTy u t)) h
  | none => .stuck
def isi2 (t s : Ty) (d : D) (h : AH) : Res D := match tyD h d with
  | some u => .ok (.bl (isTy u t || isTy u s)) h
  | none => .stuck
theorem ee_isi {y : Str} (t : Ty) (ht : t = .int ∨ t = .bl ∨ t = .tup ∨ t = .lst) (G : Good X B) (ha : EE X B W a fa) (hm : X.mg "isinstance" = none) (hn : X.mg y = none) (hv : bootBuiltins y = some (.type t.nm)) (hg : Gl X "isinstance" := by rfl) (hgy : Gl X y := by rfl)
    (hny : y ≠ "__name__" := by decide) (hdy : (y == ("__debug__" : Str)) = false := by decide)
    (he : starEach [a, .Name y p2] X.env = (false, eval a X.env) :: starEach [.Name y p2] X.env := by rfl) (he2 : starEach [.Name y p2] X.env = (false, eval (.Name y p2) X.env) :: starEach [] X.env := by rfl) (hpl : (backTo pos (starEach [.Name y p2] X.env)).any (·.1) = false := by rfl) :
    EE X B W (.Call (.Name "isinstance" p) [a, .Name y p2] [] pos) (una (isi t) fa) := by
  obtain ⟨ta, pa, qa⟩ := ha
  have py : PE X (.Name y p2) (tC (.ty t.nm)) := pe_bltn hgy hn hv rfl hny hdy
  refine ⟨_, pe_callB call_isi hg hm PyProof.Rows.boot_isinstance (pa_cons pa (pa_cons py pa_nil he2) he) (by decide) (by decide) he hpl, fun T m σ H en h Q R Re pp => qa T m σ H en h _ R Re (pp.bind fun d h1 m1 v H1 x1 R1 r1 q1 => ?_)⟩
  unfold isi at q1
  cases e : tyD h1 d with
  | none => rw [e] at q1; exact q1.elim
  | some u =>
    rw [e] at q1
    refine ⟨v, .ty t.nm, .type u.nm, .type t.nm, isTy u t, rfl, .ty _, ?_, kit_isTy _ u t ht, q1 m1 _ H1 (Ext.refl _ _) R1 (.bl _)⟩
    rw [← G.K]
    exact tyD_rep R1 r1 e
theorem ee_isi2 {y z : Str} (t s : Ty) (ht : t = .int ∨ t = .bl ∨ t = .tup ∨ t = .lst) (hs : s = .int ∨ s = .bl ∨ s = .tup ∨ s = .lst) (G : Good X B) (ha : EE X B W a fa) (hm : X.mg "isinstance" = none) (hn : X.mg y = none) (hn2 : X.mg z = none) (hv : bootBuiltins y = some (.type t.nm)) (hv2 : bootBuiltins z = some (.type s.nm))
    {k : Nat} (hg : Gl X "isinstance" := by rfl) (hgy : Gl X y := by rfl) (hgz : Gl X z := by rfl)
    (hny : y ≠ "__name__" := by decide) (hdy : (y == ("__debug__" : Str)) = false := by decide) (hnz : z ≠ "__name__" := by decide) (hdz : (z == ("__debug__" : Str)) = false := by decide)
    (he : starEach [a, .Tuple [.Name y p1, .Name z p2] k p3] X.env = (false, eval a X.env) :: starEach [.Tuple [.Name y p1, .Name z p2] k p3] X.env := by rfl) (he2 : starEach [.Tuple [.Name y p1, .Name z p2] k p3] X.env = (false, eval (.Tuple [.Name y p1, .Name z p2] k p3) X.env) :: starEach [] X.env := by rfl)
    (he3 : starEach [.Name y p1, .Name z p2] X.env = (false, eval (.Name y p1) X.env) :: starEach [.Name z p2] X.env := by rfl) (he4 : starEach [.Name z p2] X.env = (false, eval (.Name z p2) X.env) :: starEach [] X.env := by rfl)
    (hpl : (backTo pos (starEach [.Tuple [.Name y p1, .Name z p2] k p3] X.env)).any (·.1) = false := by rfl) :
    EE X B W (.Call (.Name "isinstance" p) [a, .Tuple [.Name y p1, .Name z p2] k p3] [] pos) (una (isi2 t s) fa) := by
  obtain ⟨ta, pa, qa⟩ := ha
  have py : PE X (.Name y p1) (tC (.ty t.nm)) := pe_bltn hgy hn hv rfl hny hdy
  have pz : PE X (.Name z p2) (tC (.ty s.nm)) := pe_bltn hgz hn2 hv2 rfl hnz hdz
  have pt : PE X (.Tuple [.Name y p1, .Name z p2] k p3) (tTup (tCons (tC (.ty t.nm)) (tCons (tC (.ty s.nm)) tNil))) := pe_tup (pa_cons py (pa_cons pz pa_nil he4) he3)
  refine ⟨_, pe_callB call_isiT hg hm PyProof.Rows.boot_isinstance (pa_cons pa (pa_cons pt pa_nil he2) he) (by decide) (by decide) he hpl, fun T m σ H en h Q R Re pp => qa T m σ H en h _ R Re (pp.bind fun d h1 m1 v H1 x1 R1 r1 q1 => ?_)⟩
  unfold isi2 at q1
  cases e : tyD h1 d with
  | none => rw [e] at q1; exact q1.elim
  | some u =>
    rw [e] at q1
    refine ⟨by show 2 ≤ sizeLine; rw [lim_eq]; decide, fun ad n => ⟨v, ad, [.ty t.nm, .ty s.nm], .type u.nm, [.type t.nm, .type s.nm], isTy u t || isTy u s, rfl, upd_same, .cons (.ty _) (.cons (.ty _) .nil), ?_, ?_, q1 m1 _ _ (ext_new n) (R1.new n) (.bl _)⟩⟩
    · rw [← G.K]
      exact tyD_rep (R1.new n) (r1.new n) e
    · refine kitAny_cons (kit_isTy _ u t ht) (fun e0 => ?_) (fun e0 => by rw [e0]; rfl)
      refine kitAny_cons (kit_isTy _ u s hs) (fun e1 => ?_) (fun e1 => by rw [e0, e1]; rfl)
      rw [e0, e1]
      exact kitAny_nil

/-! ### bit_length, sorted -/
def dBits : D → AH → Res D
  | .int i, h => .ok (.int (bits i : Nat)) h
  | _, _ => .stuck
theorem ee_bits {apos : Pos} (ha : EE X B W a fa) (hbase : attributeBase a "bit_length" X.env (eval a X.env) = eval a X.env := by rfl) (hline : (apos.endLine == pos.line) = true := by rfl) : EE X B W (.Call (.Attribute a "bit_length" apos) [] [] pos) (una dBits fa) := by
  obtain ⟨ta, pa, qa⟩ := ha
  refine ⟨_, pe_bits pa hbase hline, fun T m σ H en h Q R Re pp => qa T m σ H en h _ R Re (pp.bind fun d h1 m1 v H1 x1 R1 r1 q1 => ?_)⟩
  cases r1 with
  | int i => exact ⟨i, rfl, q1 m1 _ H1 (Ext.refl _ _) R1 (.int _)⟩
  | _ => exact q1.elim
def insI (i : Int) : List Int → List Int
  | [] => [i]
  | j :: l => if i ≤ j then i :: j :: l else j :: insI i l
def isort : List Int → List Int
  | [] => []
  | i :: l => insI i (isort l)
theorem insI_perm (i : Int) : ∀ l : List Int, (insI i l).Perm (i :: l)
  | [] => List.Perm.refl _
  | j :: l => by
    unfold insI
    split
    · exact List.Perm.refl _
    · exact ((insI_perm i l).cons j).trans (List.Perm.swap i j l)
theorem isort_perm : ∀ l : List Int, (isort l).Perm l
  | [] => List.Perm.refl _
  | i :: l => (insI_perm i _).trans ((isort_perm l).cons i)
theorem insI_sorted (i : Int) : ∀ l : List Int, l.Pairwise (· ≤ ·) → (insI i l).Pairwise (· ≤ ·)
  | [], _ => by simp [insI]
  | j :: l, h => by
    unfold insI
    rw [List.pairwise_cons] at h
    split
    · rename_i hij
      rw [List.pairwise_cons]
      refine ⟨fun y hy => ?_, by rw [List.pairwise_cons]; exact h⟩
      rcases List.mem_cons.mp hy with rfl | hy
      · exact hij
      · exact Int.le_trans hij (h.1 y hy)
    · rename_i hij
      rw [List.pairwise_cons]
      refine ⟨fun y hy => ?_, insI_sorted i l h.2⟩
      rcases List.mem_cons.mp ((insI_perm i l).mem_iff.mp hy) with rfl | hy
      · omega
      · exact h.1 y hy
theorem isort_sorted : ∀ l : List Int, (isort l).Pairwise (· ≤ ·)
  | [] => .nil
  | i :: l => insI_sorted i _ (isort_sorted l)
def bSort (mk : List D → AH → Res D) : List D → AH → Res D := bInts fun ns h => bif decide (ns.length < 64) then mk ((isort ns).map D.int) h else .stuck
theorem c1_sort (G : Good X B) {mk : List D → AH → Res D} (hmk : ∀ (W : WX) T m σ H h Q ds xs, RelH B T m H h → Reps B T m H ds xs → PE_ B W T m σ H Q (mk ds h) → xs.length ≤ sizeLine ∧ ∀ a, H a = none → Q (.ref a) (upd H a (.lst xs))) : C1 B (rSorted X.K) (bSort mk) := by
  intro W T m σ H h Q ds vs R rs pp
  obtain ⟨a, ns, rfl, hs, pp⟩ := ints_run G R rs pp
  cases q : decide (ns.length < 64) with
  | false => rw [q] at pp; exact pp.elim
  | true =>
    rw [q] at pp
    refine ⟨a, ns, rfl, hs, of_decide_eq_true q, fun ns' p hp hsor n => ?_⟩
    have e : ns' = isort ns := List.Perm.eq_of_pairwise (fun x y _ _ h1 h2 => Int.le_antisymm h1 h2) hsor (isort_sorted ns) (hp.trans (isort_perm ns).symm)
    rw [e]
    exact (hmk W T m σ H h Q _ _ R (Reps.ints _) pp).2 p n
end

/-! ### methods of mutable lists -/
section
variable {X : Cx} {B : Tab} {W : WX} {pos apos : Pos} {a e : Expr} {fa fe : En → AH → Res D}
/-- o.m(e) where o is a mutable list -/
def met1 (o : Nat → List D → D → AH → Res D) (fa fe : En → AH → Res D) : En → AH → Res D := fun en h => (fa en h).bind fun x h1 => match x with
  | .ref k => (match cellL h1 k with
    | some _ => (fe en h1).bind fun d h2 => (match cellL h2 k with
      | some l => o k l d h2
      | none => .stuck)
    | none => .stuck)
  | _ => .stuck
def met0 (o : Nat → List D → AH → Res D) (fa : En → AH → Res D) : En → AH → Res D := fun en h => (fa en h).bind fun x h1 => match x with
  | .ref k => (match cellL h1 k with
    | some l => o k l h1
    | none => .stuck)
  | _ => .stuck
/-- a method's rule over a mutable list by its items -/
def M1 (B : Tab) (r : V → List V → Hp → VK → Prop) (o : Nat → List D → D → AH → Res D) : Prop :=
  ∀ (W : WX) T m σ H h Q k a l xs d v, RelH B T m H h → m[k]? = some a → H a = some (.lst xs) → cellL h k = some l → Reps B T m H l xs → Rep B T m H d v → PE_ B W T m σ H Q (o k l d h) → r (.ref a) [v] H Q
def M0 (B : Tab) (r : V → List V → Hp → VK → Prop) (o : Nat → List D → AH → Res D) : Prop :=
  ∀ (W : WX) T m σ H h Q k a l xs, RelH B T m H h → m[k]? = some a → H a = some (.lst xs) → cellL h k = some l → Reps B T m H l xs → PE_ B W T m σ H Q (o k l h) → r (.ref a) [] H Q
theorem cell_at {T m : List Addr} {H : Hp} {h : AH} (R : RelH B T m H h) {k : Nat} {l : List D} {a : Addr} (e : cellL h k = some l) (hk : m[k]? = some a) : ∃ xs, H a = some (.lst xs) ∧ Reps B T m H l xs := by
  obtain ⟨a', e1, xs, e2, rs⟩ := R.cell k _ (cellL_eq e)
  rw [hk] at e1
  cases e1
  exact ⟨xs, e2, rs⟩
theorem ee_met1 {id : String} {name : Str} {r : V → List V → Hp → VK → Prop} {o : Nat → List D → D → AH → Res D} (slot : Slot "list" name id) (hty : typeOf (.builtin id) = pure (.type "method_descriptor")) (hm : MtR X id r) (h1 : M1 B r o) (ha : EE X B W a fa) (he : EE X B W e fe)
    (hbase : attributeBase a name X.env (eval a X.env) = eval a X.env := by rfl)
    (hfew : ((backTo pos (starEach [e] X.env)).all (fun x => !x.1) && (backToKw pos (keywordEach [] X.env)).all (fun x => x.1.isSome)
      && decide (([e] : List Expr).length + ([] : List Keyword).length + (if ([] : List Keyword).isEmpty then 0 else 1) < 30)) = true := by rfl)
    (hline : (apos.endLine == pos.line) = true := by rfl) (hs : starEach [e] X.env = (false, eval e X.env) :: starEach [] X.env := by rfl) (hplain : (backTo pos (starEach [] X.env)).any (·.1) = false := by rfl) :
    EE X B W (.Call (.Attribute a name apos) [e] [] pos) (met1 o fa fe) := by
  obtain ⟨ta, pa, qa⟩ := ha
  obtain ⟨te, pe, qe⟩ := he
  refine ⟨_, pe_bm PySem.F.plainAttrs_list slot hty hm pa (pa_cons pe pa_nil hs) hbase hfew hline hs hplain, fun T m σ H en h Q R Re p => qa T m σ H en h _ R Re (p.bind fun d h1' m1 v H1 x1 R1 r1 p1 => ?_)⟩
  cases r1 with
  | @ref k ad hk =>
    have p1 : PE_ B W T m1 σ H1 Q (match cellL h1' k with
      | some _ => (fe en h1').bind fun d h2 => (match cellL h2 k with
        | some l => o k l d h2
        | none => .stuck)
      | none => .stuck) := p1
    cases q : cellL h1' k with
    | none => rw [q] at p1; exact p1.elim
    | some l0 =>
      rw [q] at p1
      obtain ⟨xs0, e0, _⟩ := cell_at R1 q hk
      refine ⟨.inl ⟨rfl, _, SqL.of e0⟩, qe T m1 σ H1 en h1' _ R1 (Re.mono x1) (Po.bind (show PE_ B W T m1 σ H1 Q ((fe en h1').bind _) from p1) fun d h2 m2 w H2 x2 R2 r2 p2 => ?_)⟩
      cases q2 : cellL h2 k with
      | none => rw [q2] at p2; exact p2.elim
      | some l =>
        rw [q2] at p2
        obtain ⟨xs, e2, rs⟩ := cell_at R2 q2 (x2.at hk)
        exact h1 W T m2 σ H2 h2 Q k ad l xs d w R2 (x2.at hk) e2 q2 rs r2 p2
  | _ => exact p1.elim
theorem ee_met0 {id : String} {name : Str} {r : V → List V → Hp → VK → Prop} {o : Nat → List D → AH → Res D} (slot : Slot "list" name id) (hty : typeOf (.builtin id) = pure (.type "method_descriptor")) (hm : MtR X id r) (h0 : M0 B r o) (ha : EE X B W a fa)
    (hbase : attributeBase a name X.env (eval a X.env) = eval a X.env := by rfl) (hline : (apos.endLine == pos.line) = true := by rfl) :
    EE X B W (.Call (.Attribute a name apos) [] [] pos) (met0 o fa) := by
  obtain ⟨ta, pa, qa⟩ := ha
  refine ⟨_, pe_bm0 PySem.F.plainAttrs_list slot hty hm pa hbase hline, fun T m σ H en h Q R Re p => qa T m σ H en h _ R Re (p.bind fun d h1' m1 v H1 x1 R1 r1 p1 => ?_)⟩
  cases r1 with
  | @ref k ad hk =>
    have p1 : PE_ B W T m1 σ H1 Q (match cellL h1' k with
      | some l => o k l h1'
      | none => .stuck) := p1
    cases q : cellL h1' k with
    | none => rw [q] at p1; exact p1.elim
    | some l =>
      rw [q] at p1
      obtain ⟨xs, e0, rs⟩ := cell_at R1 q hk
      exact ⟨.inl ⟨rfl, _, SqL.of e0⟩, h0 W T m1 σ H1 h1' Q k ad l xs R1 hk e0 q rs p1⟩
  | _ => exact p1.elim
/-- the items of a cell are written -/
theorem cell_set {T m : List Addr} {H : Hp} {h : AH} (R : RelH B T m H h) {k : Nat} {a : Addr} {l : List D} {xs : List V} (hk : m[k]? = some a) (rs : Reps B T m H l xs) : Ext m H m (upd H a (.lst xs)) ∧ RelH B T m (upd H a (.lst xs)) (h.set k (.vals l)) :=
  ⟨ext_set R hk, R.set hk ⟨xs, upd_same, rs.mono (ext_set R hk)⟩⟩
def oApp (k : Nat) (l : List D) (d : D) (h : AH) : Res D := bif decide (l.length < LIM) then .ok .non (h.set k (.vals (l ++ [d]))) else .stuck
theorem m1_app : M1 B rAppend oApp := by
  intro W T m σ H h Q k a l xs d v R hk e q rs r p
  unfold oApp at p
  cases z : decide (l.length < LIM) with
  | false => rw [z] at p; exact p.elim
  | true =>
    rw [z] at p
    have z := of_decide_eq_true z
    rw [rs.length, ← lim_eq] at z
    obtain ⟨x, R'⟩ := cell_set R hk (rs.append (.cons r .nil))
    exact ⟨a, xs, v, rfl, rfl, e, z, p m _ _ x R' .non⟩
theorem ee_append (ha : EE X B W a fa) (he : EE X B W e fe) (hbase : attributeBase a "append" X.env (eval a X.env) = eval a X.env := by rfl)
    (hfew : ((backTo pos (starEach [e] X.env)).all (fun x => !x.1) && (backToKw pos (keywordEach [] X.env)).all (fun x => x.1.isSome)
      && decide (([e] : List Expr).length + ([] : List Keyword).length + (if ([] : List Keyword).isEmpty then 0 else 1) < 30)) = true := by rfl)
    (hline : (apos.endLine == pos.line) = true := by rfl) (hs : starEach [e] X.env = (false, eval e X.env) :: starEach [] X.env := by rfl) (hplain : (backTo pos (starEach [] X.env)).any (·.1) = false := by rfl) :
    EE X B W (.Call (.Attribute a "append" apos) [e] [] pos) (met1 oApp fa fe) := ee_met1 PySem.F.slot_list_append PySem.F.type_list_append mt_append m1_app ha he hbase hfew hline hs hplain
def oPop (k : Nat) (l : List D) (h : AH) : Res D := match l[l.length - 1]? with
  | some d => .ok d (h.set k (.vals l.dropLast))
  | none => .stuck
theorem Reps.dropLast {T m : List Addr} {H : Hp} {ds : List D} {xs : List V} (r : Reps B T m H ds xs) : Reps B T m H ds.dropLast xs.dropLast := by
  rw [List.dropLast_eq_take, List.dropLast_eq_take, r.length]
  exact r.take _
theorem m0_pop : M0 B rPop oPop := by
  intro W T m σ H h Q k a l xs R hk e q rs p
  unfold oPop at p
  cases z : l[l.length - 1]? with
  | none => rw [z] at p; exact p.elim
  | some d =>
    rw [z] at p
    obtain ⟨v, ev, r⟩ := rs.get z
    obtain ⟨x, R'⟩ := cell_set R hk rs.dropLast
    refine ⟨a, xs, v, rfl, rfl, e, by rw [← rs.length]; exact ev, p m _ _ x R' (r.mono x)⟩
theorem ee_pop (ha : EE X B W a fa) (hbase : attributeBase a "pop" X.env (eval a X.env) = eval a X.env := by rfl) (hline : (apos.endLine == pos.line) = true := by rfl) :
    EE X B W (.Call (.Attribute a "pop" apos) [] [] pos) (met0 oPop fa) := ee_met0 PySem.F.slot_list_pop PySem.F.type_list_pop mt_pop m0_pop ha hbase hline
def oRev (k : Nat) (l : List D) (h : AH) : Res D := .ok .non (h.set k (.vals l.reverse))
theorem m0_rev : M0 B rReverse oRev := by
  intro W T m σ H h Q k a l xs R hk e q rs p
  obtain ⟨x, R'⟩ := cell_set R hk rs.reverse
  exact ⟨a, xs, rfl, rfl, e, p m _ _ x R' .non⟩
theorem ee_reverse (ha : EE X B W a fa) (hbase : attributeBase a "reverse" X.env (eval a X.env) = eval a X.env := by rfl) (hline : (apos.endLine == pos.line) = true := by rfl) :
    EE X B W (.Call (.Attribute a "reverse" apos) [] [] pos) (met0 oRev fa) := ee_met0 PySem.F.slot_list_reverse PySem.F.type_list_reverse mt_reverse m0_rev ha hbase hline
/-- l.pop(i), 0 ≤ i -/
def oPopAt (k : Nat) (l : List D) (d : D) (h : AH) : Res D := match d with
  | .int i => bif decide (0 ≤ i) && decide (i < 1000000) then (match l[i.toNat]? with
    | some d => .ok d (h.set k (.vals (l.eraseIdx i.toNat)))
    | none => .stuck) else .stuck
  | _ => .stuck
theorem Reps.erase {T m : List Addr} {H : Hp} : ∀ {ds : List D} {xs : List V} (i : Nat), Reps B T m H ds xs → Reps B T m H (ds.eraseIdx i) (xs.eraseIdx i)
  | _, _, _, .nil => .nil
  | _, _, 0, .cons _ rs => rs
  | _, _, i + 1, .cons r rs => .cons r (Reps.erase i rs)
theorem m1_popAt : M1 B rPopAt oPopAt := by
  intro W T m σ H h Q k a l xs d v R hk e q rs r p
  cases r with
  | int i =>
    have p : PE_ B W T m σ H Q (bif decide (0 ≤ i) && decide (i < 1000000) then (match l[i.toNat]? with
      | some d => .ok d (h.set k (.vals (l.eraseIdx i.toNat)))
      | none => .stuck) else .stuck) := p
    cases z : decide (0 ≤ i) && decide (i < 1000000) with
    | false => rw [z] at p; exact p.elim
    | true =>
      rw [z] at p
      obtain ⟨z1, z2⟩ := Bool.and_eq_true_iff.mp z
      have z1 := of_decide_eq_true z1
      have z2 := of_decide_eq_true z2
      have p : PE_ B W T m σ H Q (match l[i.toNat]? with
        | some d => .ok d (h.set k (.vals (l.eraseIdx i.toNat)))
        | none => .stuck) := p
      cases z3 : l[i.toNat]? with
      | none => rw [z3] at p; exact p.elim
      | some d =>
        rw [z3] at p
        obtain ⟨v, ev, r⟩ := rs.get z3
        obtain ⟨x, R'⟩ := cell_set R hk (rs.erase i.toNat)
        have hl : i.toNat < xs.length := (List.getElem?_eq_some_iff.mp ev).1
        exact ⟨a, xs, i, i.toNat, v, rfl, rfl, e, by omega, by omega, seqIndex_of z1 (by omega), ev, p m _ _ x R' (r.mono x)⟩
  | _ => exact p.elim
theorem ee_popAt (ha : EE X B W a fa) (he : EE X B W e fe) (hbase : attributeBase a "pop" X.env (eval a X.env) = eval a X.env := by rfl)
    (hfew : ((backTo pos (starEach [e] X.env)).all (fun x => !x.1) && (backToKw pos (keywordEach [] X.env)).all (fun x => x.1.isSome)
      && decide (([e] : List Expr).length + ([] : List Keyword).length + (if ([] : List Keyword).isEmpty then 0 else 1) < 30)) = true := by rfl)
    (hline : (apos.endLine == pos.line) = true := by rfl) (hs : starEach [e] X.env = (false, eval e X.env) :: starEach [] X.env := by rfl) (hplain : (backTo pos (starEach [] X.env)).any (·.1) = false := by rfl) :
    EE X B W (.Call (.Attribute a "pop" apos) [e] [] pos) (met1 oPopAt fa fe) := ee_met1 PySem.F.slot_list_pop PySem.F.type_list_pop mt_popAt m1_popAt ha he hbase hfew hline hs hplain
end

/-! ### slots of an instance -/
/-- what the program's text says of the class number c -/
structure ClsOk (B : Tab) (c : Nat) (fs : List Str) : Prop where
  cls : SlX.SCls B.K (B.cls c)
  slot : ∀ (i : Nat) (f : Str), fs[i]? = some f → ∃ p, SlX.Slot1 B.K (B.cls c) f p i
section
variable {X : Cx} {B : Tab} {W : WX} {pos : Pos} {a : Expr} {f : Str} {fa : En → AH → Res D}
/-- the i-th slot of an instance of the class number c -/
def fld (c i : Nat) (d : D) (h : AH) : Res D := match d with
  | .obj c' l => bif c' == c then (match l[i]? with
    | some d => .ok d h
    | none => .stuck) else .stuck
  | _ => .stuck
theorem ee_fld (c i : Nat) {fs : List Str} (G : Good X B) (O : ClsOk B c fs) (hf : fs[i]? = some f) (ha : EE X B W a fa) (hb : attributeBase a f X.env (eval a X.env) = eval a X.env := by rfl) : EE X B W (.Attribute a f pos) (una (fld c i) fa) := by
  obtain ⟨ta, pa, qa⟩ := ha
  refine ⟨_, SlX.pe_sl pa hb, fun T m σ H en h Q R Re p => qa T m σ H en h _ R Re (p.bind fun d h1 m1 v H1 x1 R1 r1 p1 => ?_)⟩
  cases r1 with
  | @obj c' ds ad dx xs n1 n2 n3 n4 n5 e1 e2 rs =>
    have p1 : PE_ B W T m1 σ H1 Q (bif c' == c then (match ds[i]? with
      | some d => .ok d h1
      | none => .stuck) else .stuck) := p1
    cases q : c' == c with
    | false => rw [q] at p1; exact p1.elim
    | true =>
      rw [q] at p1
      have p2 : PE_ B W T m1 σ H1 Q (match ds[i]? with
        | some d => .ok d h1
        | none => .stuck) := p1
      clear p1 p
      have q := eq_of_beq q
      subst q
      cases z : ds[i]? with
      | none => rw [z] at p2; exact p2.elim
      | some d =>
        rw [z] at p2
        obtain ⟨w, ew, rw'⟩ := rs.get z
        obtain ⟨pp, s1⟩ := O.slot i f hf
        refine ⟨ad, B.cls c', dx, pp, xs.map some, i, w, rfl, .inr ⟨e1, e2⟩, ?_, ?_, ?_, p2 m1 _ H1 (Ext.refl _ _) R1 rw'⟩
        · rw [← G.K]; exact O.cls
        · rw [← G.K]; exact s1
        · rw [List.getElem?_map, ew] <;> rfl
  | _ => exact p1.elim
end
end Cb
/-! The Cb layer, part 7: statements. -/
namespace Cb
open PySem L2

def RS.seq : RS → (En → AH → RS) → RS
  | .nx en h, k => k en h
  | r, _ => r
section
variable {X : Cx} {B : Tab} {W : WX} {pos : Pos} {st : Stmt} {rest : List Stmt} {f g : En → AH → RS} {e : Expr} {fe fa fb fo fi : En → AH → Res D}
theorem sss_nil : SSs X B W [] (fun en h => .nx en h) := ⟨_, pss_nil, fun T m σ H en h Z R Re p => p m σ H (Ext.refl _ _) R Re⟩
def seq (f g : En → AH → RS) : En → AH → RS := fun en h => (f en h).seq g
theorem sss_cons (h1 : SS X B W st f) (h2 : SSs X B W rest g) : SSs X B W (st :: rest) (seq f g) := by
  obtain ⟨t1, p1, q1⟩ := h1
  obtain ⟨t2, p2, q2⟩ := h2
  refine ⟨_, pss_cons p1 p2, fun T m σ H en h Z R Re p => q1 T m σ H en h _ R Re ?_⟩
  unfold seq at p
  cases z : f en h with
  | nx en' h' =>
    rw [z] at p
    exact fun m' σ' H' x R' Re' => q2 T m' σ' H' en' h' Z R' Re' (PS_.from x p)
  | ret d h' => rw [z] at p; exact p
  | brk en' h' => rw [z] at p; exact p
  | cont en' h' => rw [z] at p; exact p
  | exc c d en' h' => rw [z] at p; exact p
  | stuck => rw [z] at p; exact p
theorem sss_one (h1 : SS X B W st f) : SSs X B W [st] f := by
  obtain ⟨t1, p1, q1⟩ := h1
  exact ⟨_, pss_one p1, q1⟩
theorem ss_pass : SS X B W (.Pass pos) (fun en h => .nx en h) := ⟨_, ps_pass, fun T m σ H en h Z R Re p => p m σ H (Ext.refl _ _) R Re⟩
theorem ss_break : SS X B W (.Break pos) (fun en h => .brk en h) := ⟨_, ps_break, fun T m σ H en h Z R Re p => p m σ H (Ext.refl _ _) R Re⟩
theorem ss_cont : SS X B W (.Continue pos) (fun en h => .cont en h) := ⟨_, ps_continue, fun T m σ H en h Z R Re p => p m σ H (Ext.refl _ _) R Re⟩
def sExpr (fe : En → AH → Res D) : En → AH → RS := fun en h => (fe en h).bindS en fun _ h1 => .nx en h1
theorem ss_expr (he : EE X B W e fe) (hs : swapsWith e none pos.line X.env = pure false := by rfl) : SS X B W (.Expr e pos) (sExpr fe) := by
  obtain ⟨te, pe, qe⟩ := he
  exact ⟨_, ps_expr pe hs, fun T m σ H en h Z R Re p => qe T m σ H en h _ R Re (Po.bindS Re p fun d h1 m1 v H1 x1 R1 r1 p1 => p1 m1 σ H1 (Ext.refl _ _) R1 (Re.mono x1))⟩
def sRet (fe : En → AH → Res D) : En → AH → RS := fun en h => (fe en h).bindS en fun d h1 => .ret d h1
theorem ss_ret (he : EE X B W e fe) : SS X B W (.Return (some e) pos) (sRet fe) := by
  obtain ⟨te, pe, qe⟩ := he
  exact ⟨_, ps_ret pe, fun T m σ H en h Z R Re p => qe T m σ H en h _ R Re (Po.bindS Re p fun d h1 m1 v H1 x1 R1 r1 p1 => p1 m1 v H1 (Ext.refl _ _) R1 r1)⟩
theorem ss_retN : SS X B W (.Return none pos) (fun _ h => .ret .non h) := ⟨_, ps_retN, fun T m σ H en h Z R Re p => p m _ H (Ext.refl _ _) R .non⟩
def sIf (gc : En → AH → Res Bool) (f g : En → AH → RS) : En → AH → RS := fun en h => (gc en h).bindS en fun k h1 => bif k then f en h1 else g en h1
theorem ss_if {c : Expr} {a b : List Stmt} {gc : En → AH → Res Bool} (hc : ET X B W c gc) (ha : SSs X B W a f) (hb : SSs X B W b g) : SS X B W (.If c a b pos) (sIf gc f g) := by
  obtain ⟨tc, pc, qc⟩ := hc
  obtain ⟨ta, pa, qa⟩ := ha
  obtain ⟨tb, pb, qb⟩ := hb
  refine ⟨_, ps_if pc pa pb, fun T m σ H en h Z R Re p => qc T m σ H en h _ R Re (Po.bindS Re p fun d h1 m1 v H1 x1 R1 r1 p1 => ?_)⟩
  cases r1
  cases d with
  | true => rw [if_pos rfl]; exact qa T m1 σ H1 en h1 Z R1 (Re.mono x1) p1
  | false => rw [if_neg Bool.false_ne_true]; exact qb T m1 σ H1 en h1 Z R1 (Re.mono x1) p1

/-! ### names get values -/
theorem RelE.set {T m : List Addr} {H : Hp} {en : En} {σ : St} (Re : RelE B T m H en σ) (i : Nat) {d : D} {v : V} (r : Rep B T m H d v) : RelE B T m H (en.set i (some d)) (σ.set i (some v)) := by
  refine ⟨by simp [Re.len], fun j e z => ?_⟩
  by_cases hj : i = j
  · subst hj
    have hl : i < en.length := by
      by_cases hl : i < en.length
      · exact hl
      · rw [List.set_eq_of_length_le (by omega)] at z
        exact (List.getElem?_eq_some_iff.mp z).1
    rw [List.getElem?_set_self hl] at z
    cases z
    exact ⟨v, List.getElem?_set_self (by rw [← Re.len]; exact hl), r⟩
  · rw [List.getElem?_set_ne hj] at z
    obtain ⟨w, ew, rw'⟩ := Re.at_ j e z
    exact ⟨w, by rw [List.getElem?_set_ne hj]; exact ew, rw'⟩
def sSet (i : Nat) (fe : En → AH → Res D) : En → AH → RS := fun en h => (fe en h).bindS en fun d h1 => .nx (en.set i (some d)) h1
theorem ss_set (i : Nat) {x : Str} {pos' : Pos} (G : Good X B) (he : EE X B W e fe) (hi : X.N[i]? = some x := by rfl) (hx : Loc X.env.scope x := by first | exact Or.inl rfl | exact Or.inr rfl) (hs : swapsWith e (some (.Name x pos')) pos.line X.env = pure false := by rfl)
    (hf : X.fn x = true ∨ X.env.scope.names.lookup x = some .local := by first | exact .inl rfl | exact .inr rfl) : SS X B W (.Assign [.Name x pos'] e pos) (sSet i fe) := by
  obtain ⟨te, pe, qe⟩ := he
  exact ⟨_, ps_set G.nd hi hx pe hs hf, fun T m σ H en h Z R Re p => qe T m σ H en h _ R Re (Po.bindS Re p fun d h1 m1 v H1 x1 R1 r1 p1 => p1 m1 _ H1 (Ext.refl _ _) R1 ((Re.mono x1).set i r1))⟩
/-- only the slots vs changed -/
def Off (vs : List Nat) (σ σ' : L2.St) : Prop := σ'.length = σ.length ∧ ∀ i, i ∉ vs → σ'[i]? = σ[i]?
theorem Off.refl (vs : List Nat) (σ : L2.St) : Off vs σ σ := ⟨rfl, fun _ _ => rfl⟩
theorem Off.trans {vs us : List Nat} {σ σ1 σ2 : L2.St} (a : Off vs σ σ1) (b : Off us σ1 σ2) : Off (vs ++ us) σ σ2 :=
  ⟨b.1.trans a.1, fun i h => by
    have h1 : i ∉ vs := fun z => h (List.mem_append_left _ z)
    have h2 : i ∉ us := fun z => h (List.mem_append_right _ z)
    rw [b.2 i h2, a.2 i h1]⟩
/-- a target that touches names alone (the slots vs) -/
def EGn (X : Cx) (B : Tab) (tg : Expr) (vs : List Nat) (f : D → En → Option En) : Prop :=
  ∃ t, PG X tg t ∧ ∀ T m σ H en h Q d v en', RelH B T m H h → RelE B T m H en σ → Rep B T m H d v → f d en = some en' → (∀ σ', RelE B T m H en' σ' → Off vs σ σ' → Q σ' H) → t v σ H Q
def EGs (X : Cx) (B : Tab) (tgs : List Expr) (vs : List Nat) (f : List D → En → Option En) : Prop :=
  ∃ t, PGs X tgs t ∧ ∀ T m σ H en h Q ds us en', RelH B T m H h → RelE B T m H en σ → Reps B T m H ds us → f ds en = some en' → (∀ σ', RelE B T m H en' σ' → Off vs σ σ' → Q σ' H) → t us σ H Q
def gN (i : Nat) : D → En → Option En := fun d en => some (en.set i (some d))
theorem eg_name (i : Nat) {x : Str} (G : Good X B) (hi : X.N[i]? = some x := by rfl) (hx : Loc X.env.scope x := by first | exact Or.inl rfl | exact Or.inr rfl) (hf : X.fn x = true ∨ X.env.scope.names.lookup x = some .local := by first | exact .inl rfl | exact .inr rfl) : EGn X B (.Name x pos) [i] (gN i) := by
  refine ⟨_, pg_name G.nd hi hx hf, fun T m σ H en h Q d v en' R Re r z q => ?_⟩
  cases z
  refine q _ (Re.set i r) ⟨by simp, fun j hj => ?_⟩
  rw [List.getElem?_set_ne]
  intro z
  exact hj (by simp [z])
def gs0 : List D → En → Option En
  | [], en => some en
  | _, _ => none
def gs1 (f : D → En → Option En) (g : List D → En → Option En) : List D → En → Option En
  | d :: ds, en => (f d en).bind (g ds)
  | _, _ => none
theorem egs_nil : EGs X B [] [] gs0 := by
  refine ⟨_, pgs_nil, fun T m σ H en h Q ds vs en' R Re r z q => ?_⟩
  cases ds with
  | nil => cases z; cases r; exact ⟨rfl, q σ Re (Off.refl _ _)⟩
  | cons _ _ => cases z
theorem egs_cons {tg : Expr} {tgs : List Expr} {vs us : List Nat} {f : D → En → Option En} {g : List D → En → Option En} (h1 : EGn X B tg vs f) (h2 : EGs X B tgs us g) (hs : (assignEach (tg :: tgs) X.env).map (·.2) = assign tg X.env :: (assignEach tgs X.env).map (·.2) := by rfl) : EGs X B (tg :: tgs) (vs ++ us) (gs1 f g) := by
  obtain ⟨t1, p1, q1⟩ := h1
  obtain ⟨t2, p2, q2⟩ := h2
  refine ⟨_, pgs_cons p1 p2 hs, fun T m σ H en h Q ds vs en' R Re r z q => ?_⟩
  cases r with
  | nil => cases z
  | @cons d ds v vs r rs =>
    have z : (f d en).bind (g ds) = some en' := z
    cases e1 : f d en with
    | none => rw [e1] at z; cases z
    | some en1 =>
      rw [e1] at z
      exact ⟨v, vs, rfl, q1 T m σ H en h _ d v en1 R Re r e1 fun σ1 Re1 o1 => q2 T m σ1 H en1 h Q ds vs en' R Re1 rs z fun σ2 Re2 o2 => q σ2 Re2 (o1.trans o2)⟩
/-- (a, b) = a tuple or list of that length -/
def gT (n : Nat) (g : List D → En → Option En) : D → En → Option En
  | .tup l, en => bif l.length == n then g l en else none
  | .lst l, en => bif l.length == n then g l en else none
  | .fix l, en => bif l.length == n then g (l.map D.int) en else none
  | _, _ => none
theorem pg_or {tg : Expr} {t u : TG} (h : PG X tg t) (k : PG X tg u) : PG X tg (fun v σ H Q => t v σ H Q ∨ u v σ H Q) := ⟨fun pins s σ H v w Q I r z => by
  rcases z with z | z
  · exact h.run pins s σ H v w Q I r z
  · exact k.run pins s σ H v w Q I r z⟩
theorem eg_tup {tgs : List Expr} {k n : Nat} {vs : List Nat} {g : List D → En → Option En} (G : Good X B) (hg : EGs X B tgs vs g) (hn : (assignEach tgs X.env).length = n := by rfl) (hst : (assignEach tgs X.env).findIdx? (·.1) = none := by rfl) : EGn X B (.Tuple tgs k pos) vs (gT n g) := by
  obtain ⟨t, p, q⟩ := hg
  refine ⟨_, pg_or (pg_tup G.calm p hn hst) (pg_lst G.calm p hn hst), fun T m σ H en h Q d v en' R Re r z q' => ?_⟩
  cases r with
  | @tup ds a xs h1 h2 hr rs =>
    have z : (bif ds.length == n then g ds en else none) = some en' := z
    cases e : ds.length == n with
    | false => rw [e] at z; cases z
    | true =>
      rw [e] at z
      exact .inl ⟨a, xs, rfl, SqT.of hr, by rw [← rs.length]; exact eq_of_beq e, q T m σ H en h Q ds xs en' R Re rs z q'⟩
  | @lst ds a xs h1 h2 hr rs =>
    have z : (bif ds.length == n then g ds en else none) = some en' := z
    cases e : ds.length == n with
    | false => rw [e] at z; cases z
    | true =>
      rw [e] at z
      exact .inr ⟨a, xs, rfl, SqL.of hr, by rw [← rs.length]; exact eq_of_beq e, q T m σ H en h Q ds xs en' R Re rs z q'⟩
  | @fix l a hf =>
    have z : (bif l.length == n then g (l.map D.int) en else none) = some en' := z
    cases e : l.length == n with
    | false => rw [e] at z; cases z
    | true =>
      rw [e] at z
      refine .inr ⟨a, l.map V.int, rfl, ?_, by rw [List.length_map]; exact eq_of_beq e, q T m σ H en h Q (l.map D.int) (l.map V.int) en' R Re (Reps.ints l) z q'⟩
      rw [← G.K]
      rcases hf with ⟨_, _, q⟩ | q
      · exact .inl q
      · exact .inr q
  | _ => cases z
def goG (g : D → En → Option En) (en : En) (d : D) (h : AH) : RS := match g d en with
  | some en' => .nx en' h
  | none => .stuck
def sAsg (g : D → En → Option En) (fe : En → AH → Res D) : En → AH → RS := fun en h => (fe en h).bindS en (goG g en)
theorem ss_asg {tg : Expr} {g : D → En → Option En} (he : EE X B W e fe) {vs : List Nat} (hg : EGn X B tg vs g) (hs : swapsWithSole [tg] e pos.line X.env = pure false := by rfl) (hw : swappedStores [tg] e X.env = pure none := by rfl)
    (h1 : (assignEach [tg] X.env).map (·.2) = [assign tg X.env] := by rfl) : SS X B W (.Assign [tg] e pos) (sAsg g fe) := by
  obtain ⟨te, pe, qe⟩ := he
  obtain ⟨tg', pg, qg⟩ := hg
  refine ⟨_, ps_asg pe pg hs hw h1, fun T m σ H en h Z R Re p => qe T m σ H en h _ R Re (Po.bindS Re p fun d h1 m1 v H1 x1 R1 r1 p1 => ?_)⟩
  unfold goG at p1
  cases z : g d en with
  | none => rw [z] at p1; exact p1.elim
  | some en' =>
    rw [z] at p1
    exact qg T m1 σ H1 en h1 _ d v en' R1 (Re.mono x1) r1 z fun σ' Re' _ => p1 m1 σ' H1 (Ext.refl _ _) R1 Re'
/-- a, b = x, y -/
def sPar (i j : Nat) (fa fb : En → AH → Res D) : En → AH → RS := fun en h => (fa en h).bindS en fun d h1 => (fb en h1).bindS en fun e h2 => .nx ((en.set i (some d)).set j (some e)) h2
theorem ss_par (i j : Nat) {x y : Str} {a b : Expr} {px py pt : Pos} {kt k2 pt2} (G : Good X B) (ha : EE X B W a fa) (hb : EE X B W b fb) (hw : swappedStores [.Tuple [.Name x px, .Name y py] kt pt] (.Tuple [a, b] k2 pt2) X.env = pure (some [x, y]) := by rfl) (hi : X.N[i]? = some x := by rfl) (hj : X.N[j]? = some y := by rfl) (hij : i ≠ j := by decide)
    (hx : X.env.scope.names.lookup x = some .local := by rfl) (hy : X.env.scope.names.lookup y = some .local := by rfl) (hs : swapsWithSole [.Tuple [.Name x px, .Name y py] kt pt] (.Tuple [a, b] k2 pt2) pos.line X.env = pure false := by rfl)
    (h1 : starEach [a, b] X.env = (false, eval a X.env) :: starEach [b] X.env := by rfl) (h2 : starEach [b] X.env = (false, eval b X.env) :: starEach [] X.env := by rfl) :
    SS X B W (.Assign [.Tuple [.Name x px, .Name y py] kt pt] (.Tuple [a, b] k2 pt2) pos) (sPar i j fa fb) := by
  obtain ⟨ta, pa, qa⟩ := ha
  obtain ⟨tb, pb, qb⟩ := hb
  refine ⟨_, L2.ps_par G.calm G.nd hi hj hij hx hy (pa_cons pa (pa_cons pb pa_nil h2) h1) hw hs, fun T m σ H en h Z R Re p => qa T m σ H en h _ R Re (Po.bindS Re p fun d h1 m1 v H1 x1 R1 r1 p1 => ?_)⟩
  refine qb T m1 σ H1 en h1 _ R1 (Re.mono x1) (Po.bindS (Re.mono x1) p1 fun e h2 m2 w H2 x2 R2 r2 p2 => ?_)
  exact ⟨v, w, rfl, p2 m2 _ H2 (Ext.refl _ _) R2 ((((Re.mono x1).mono x2).set i (r1.mono x2)).set j r2)⟩

/-! ### x += e -/
def sAug (i : Nat) (o : D → D → AH → Res D) (fe : En → AH → Res D) : En → AH → RS := fun en h => (var i en h).bindS en fun x h1 => (fe en h1).bindS en fun y h2 => (o x y h2).bindS en fun z h3 => .nx (en.set i (some z)) h3
theorem ss_aug (i : Nat) {x : Str} {pos' : Pos} {op : Operator} {r : TIp} {o : D → D → AH → Res D} (G : Good X B) (ho : PIp X op r) (h2 : O2 X B r o) (he : EE X B W e fe) (hi : X.N[i]? = some x := by rfl) (hx : Loc X.env.scope x := by first | exact Or.inl rfl | exact Or.inr rfl)
    (hf : X.fn x = true ∨ X.env.scope.names.lookup x = some .local := by first | exact .inl rfl | exact .inr rfl) : SS X B W (.AugAssign (.Name x pos') op e pos) (sAug i o fe) := by
  obtain ⟨te, pe, qe⟩ := he
  refine ⟨_, L2.ps_aug G.nd hi hx pe ho hf, fun T m σ H en h Z R Re p => ?_⟩
  unfold sAug var at p
  cases q : en[i]? with
  | none => rw [q] at p; exact p.elim
  | some od =>
    rw [q] at p
    cases od with
    | none => exact p.elim
    | some d =>
      obtain ⟨v, ev, rv⟩ := Re.at_ i d q
      refine ⟨v, ev, qe T m σ H en h _ R Re (Po.bindS Re (show PS_ B W T m H Z ((fe en h).bindS en _) from p) fun d2 h1 m1 w H1 x1 R1 r1 p1 => ?_)⟩
      exact h2 W T m1 σ H1 h1 _ d d2 v w R1 (rv.mono x1) r1 (Po.bindS (Re.mono x1) p1 fun d3 h3 m3 u H3 x3 R3 r3 p3 => p3 m3 _ H3 (Ext.refl _ _) R3 (((Re.mono x1).mono x3).set i r3))
def dAddI : D → D → AH → Res D := i20 fun i j => .int (i + j)
def dSubI : D → D → AH → Res D := i20 fun i j => .int (i - j)
theorem o2_ip {f : Int → Int → Int} : O2 X B (ipI f) (i20 fun i j => .int (f i j)) := by
  intro W T m σ H h Q dx dy x y R rx ry p
  cases rx with
  | int i =>
    cases ry with
    | int j => exact ⟨i, j, rfl, rfl, p m _ H (Ext.refl _ _) R (.int _)⟩
    | _ => exact p.elim
  | _ => exact p.elim

/-! ### o[i] = e -/
def stC (x i d : D) (h : AH) : Option AH := match x, i with
  | .ref k, .int i => (match cellL h k with
    | some l => (ixN l.length i).map fun j => h.set k (.vals (l.set j d))
    | none => none)
  | _, _ => none
def goSt (en : En) (x i d : D) (h : AH) : RS := match stC x i d h with
  | some h' => .nx en h'
  | none => .stuck
def sSto (fo fi fe : En → AH → Res D) : En → AH → RS := fun en h => (fe en h).bindS en fun d h1 => (fo en h1).bindS en fun x h2 => (fi en h2).bindS en fun i h3 => goSt en x i d h3
theorem sto_run {T m : List Addr} {σ : St} {H : Hp} {h : AH} {en : En} {Z : Ends} {x i d : D} {xv iv v : V} (R : RelH B T m H h) (Re : RelE B T m H en σ) (rx : Rep B T m H x xv) (ri : Rep B T m H i iv) (r : Rep B T m H d v) (p : PS_ B W T m H Z (goSt en x i d h)) :
    rSetL xv iv v H fun H3 => Z.nx σ H3 := by
  cases rx with
  | @ref k a hk =>
    cases ri with
    | int j =>
      unfold goSt stC at p
      cases q : cellL h k with
      | none => simp only [q] at p; exact p.elim
      | some l =>
        simp only [q] at p
        obtain ⟨xs, e, rs⟩ := cell_at R q hk
        cases z : ixN l.length j with
        | none => simp only [z] at p; exact p.elim
        | some n =>
          simp only [z] at p
          obtain ⟨y, R'⟩ := cell_set R hk (Reps.set r n rs)
          exact ⟨a, xs, j, n, rfl, rfl, e, by rw [← rs.length]; exact z, p m σ _ y R' (Re.mono y)⟩
    | _ => exact p.elim
  | _ => exact p.elim
theorem ss_sto {o i : Expr} {spos : Pos} (ho : EE X B W o fo) (hi : EE X B W i fi) (he : EE X B W e fe) (hs : swapsWithSole [.Subscript o i spos] e pos.line X.env = pure false := by rfl) (hw : swappedStores [.Subscript o i spos] e X.env = pure none := by rfl)
    (h1 : (assignEach [.Subscript o i spos] X.env).map (·.2) = [assign (.Subscript o i spos) X.env] := by rfl)
    (ha : ∀ v, assign (.Subscript o i spos) X.env v = (do
      let ov ← holding [v] (eval o X.env)
      let iv ← holding [v, ov] (eval i X.env)
      standAt spos
      holding [v, ov, iv] (setItem ov iv v)
      release [v, ov, iv] []) := by intro _; rfl) : SS X B W (.Assign [.Subscript o i spos] e pos) (sSto fo fi fe) := by
  obtain ⟨to, po, qo⟩ := ho
  obtain ⟨ti, pi, qi⟩ := hi
  obtain ⟨te, pe, qe⟩ := he
  refine ⟨_, ps_asg pe (pg_sub po pi set_list ha) hs hw h1, fun T m σ H en h Z R Re p => qe T m σ H en h _ R Re (Po.bindS Re p fun d h1 m1 v H1 x1 R1 r1 p1 => ?_)⟩
  refine qo T m1 σ H1 en h1 _ R1 (Re.mono x1) (Po.bindS (Re.mono x1) p1 fun x h2 m2 xv H2 x2 R2 r2 p2 => ?_)
  refine qi T m2 σ H2 en h2 _ R2 ((Re.mono x1).mono x2) (Po.bindS ((Re.mono x1).mono x2) p2 fun i h3 m3 iv H3 x3 R3 r3 p3 => ?_)
  exact sto_run R3 (((Re.mono x1).mono x2).mono x3) (r2.mono x3) r3 ((r1.mono x2).mono x3) p3

/-! ### o[i] += e -/
def rGetL (K : PySem.W.Frag) : V → V → Hp → VK → Prop := fun o i H Q => ∃ p xs k v, o = .ref p ∧ i = .int k ∧ SqL K H p xs ∧ 0 ≤ k ∧ xs[k.toNat]? = some v ∧ Q v H
theorem get_list : PGet X (rGetL X.K) := by
  intro pins s σ H o i ov iv Q I ro ri h
  obtain ⟨p, xs, k, v, rfl, rfl, hp, h0, hv, q⟩ := h
  cases ro
  obtain ⟨t, rfl⟩ := ri
  obtain ⟨its, r, pl, hz⟩ := I.list hp
  obtain ⟨w, ew, rw'⟩ := r.get hv
  have hl := r.length
  have hn := line63
  have hk : k.toNat < its.length := (List.getElem?_eq_some_iff.mp ew).1
  exact wpAny_getItem_list pl.isList h0 (by omega) (by simpa using ew) ⟨v, H, I, rw', q⟩
def gtC (x i : D) (h : AH) : Res D := match x, i with
  | .ref k, .int i => (match cellL h k with
    | some l => bif decide (0 ≤ i) then (match l[i.toNat]? with
      | some d => .ok d h
      | none => .stuck) else .stuck
    | none => .stuck)
  | _, _ => .stuck
def sAugS (op : D → D → AH → Res D) (fo fi fe : En → AH → Res D) : En → AH → RS := fun en h => (fo en h).bindS en fun x h1 => (fi en h1).bindS en fun i h2 => (gtC x i h2).bindS en fun d h3 => (fe en h3).bindS en fun y h4 => (op d y h4).bindS en fun z h5 => goSt en x i z h5
theorem gtC_run {T m : List Addr} {σ : St} {H : Hp} {h : AH} {Q : VK} {x i : D} {xv iv : V} (G : Good X B) (R : RelH B T m H h) (rx : Rep B T m H x xv) (ri : Rep B T m H i iv) (p : PE_ B W T m σ H Q (gtC x i h)) : rGetL X.K xv iv H Q := by
  cases rx with
  | @ref k a hk =>
    cases ri with
    | int j =>
      unfold gtC at p
      cases q : cellL h k with
      | none => simp only [q] at p; exact p.elim
      | some l =>
        simp only [q] at p
        obtain ⟨xs, e, rs⟩ := cell_at R q hk
        cases z : decide (0 ≤ j) with
        | false => simp only [z] at p; exact p.elim
        | true =>
          simp only [z] at p
          cases z2 : l[j.toNat]? with
          | none => simp only [z2] at p; exact p.elim
          | some d =>
            simp only [z2] at p
            obtain ⟨w, ew, r⟩ := rs.get z2
            exact ⟨a, xs, j, w, rfl, rfl, SqL.of e, of_decide_eq_true z, ew, p m w H (Ext.refl _ _) R r⟩
    | _ => exact p.elim
  | _ => exact p.elim
theorem ss_augS {o i : Expr} {tpos : Pos} {op : Operator} {r : TIp} {oo : D → D → AH → Res D} (G : Good X B) (hp : PIp X op r) (h2 : O2 X B r oo) (ho : EE X B W o fo) (hi : EE X B W i fi) (he : EE X B W e fe)
    (ha : ∀ ov iv new, augStore i ov iv new = (do holding [new, ov, iv] (setItem ov iv new); release [new, ov, iv] []; pure .next) := by intros; rfl) : SS X B W (.AugAssign (.Subscript o i tpos) op e pos) (sAugS oo fo fi fe) := by
  obtain ⟨to, po, qo⟩ := ho
  obtain ⟨ti, pi, qi⟩ := hi
  obtain ⟨te, pe, qe⟩ := he
  refine ⟨_, ps_augS po pi get_list pe hp set_list ha, fun T m σ H en h Z R Re p => qo T m σ H en h _ R Re (Po.bindS Re p fun x h1 m1 xv H1 x1 R1 r1 p1 => ?_)⟩
  have Re1 := Re.mono x1
  refine qi T m1 σ H1 en h1 _ R1 Re1 (Po.bindS Re1 p1 fun i h2' m2 iv H2 x2 R2 r2 p2 => ?_)
  have Re2 := Re1.mono x2
  refine gtC_run G R2 (r1.mono x2) r2 (Po.bindS Re2 p2 fun d h3 m3 dv H3 x3 R3 r3 p3 => ?_)
  have Re3 := Re2.mono x3
  refine qe T m3 σ H3 en h3 _ R3 Re3 (Po.bindS Re3 p3 fun y h4 m4 yv H4 x4 R4 r4 p4 => ?_)
  have Re4 := Re3.mono x4
  refine h2 W T m4 σ H4 h4 _ d y dv yv R4 (r3.mono x4) r4 (Po.bindS Re4 p4 fun z h5 m5 zv H5 x5 R5 r5 p5 => ?_)
  exact sto_run R5 (Re4.mono x5) ((((r1.mono x2).mono x3).mono x4).mono x5) (((r2.mono x3).mono x4).mono x5) r5 p5
end
end Cb
/-! The Cb layer, part 8: what loops walk. First: enumerate over a tuple, a list or a tuple in a for. -/
namespace Cb
open PySem PySem.Spec PyProof.Rows L2

/-! ### enumerate of a tuple begins -/
theorem enumT_new (t : Addr) (items : Array Value) :
    Meets (Builtin.«enumerate.__new__» ⟨[.type "enumerate", .ref t], []⟩) (fun _ R s => s.heap.IsTuple t items ∧
      R (.ok (.ret (.ref (s.heap.push { cls := .type "tuple_iterator", data := .fields #[.ref t, .int 0 0] }).objs.size)))
        { s with heap := (s.heap.push { cls := .type "tuple_iterator", data := .fields #[.ref t, .int 0 0] }).push { cls := .type "enumerate", data := .fields #[.none, .bool false, .ref s.heap.objs.size, rawInt 0, .none, .none] } }) :=
  .of_wp fun prog w A R s z => by
    obtain ⟨h0, g0, d0, t0, os0⟩ := s
    obtain ⟨ht, z⟩ := z
    have sub := sub_enumerate
    have walk : ∀ {A' : Around} {E : Value → Shared → Prop} {Q : Value → Shared → Prop}, Q (.ref h0.objs.size) ⟨h0.push { cls := .type "tuple_iterator", data := .fields #[.ref t, .int 0 0] }, g0, d0, t0, os0⟩ →
        wpAny (model prog w) A' (pyIter (.ref t)) Q E ⟨h0, g0, d0, t0, os0⟩ := fun q => wpAny_pyIter_tuple ht q
    wp_walk using walk
    refine wpAny_stack_any fun st => wpAny_pure ?_
    split
    · rename_i cl _ _ _ _ _
      cases (cl == Value.type "enumerate") <;> (wp_walk using walk; exact ⟨_, rfl, z⟩)
    · wp_walk using walk
      exact ⟨_, rfl, z⟩
theorem call_enumT {prog : Program} {w : World} {A : Around} {E : Value → Shared → Prop} {s : Shared} {t : Addr} {items : Array Value} {Q : Value → Shared → Prop} (ht : s.heap.IsTuple t items)
    (q : ∀ h', IsEnum h' (s.heap.objs.size + 1) s.heap.objs.size 0 .none → h'.IsTupleIter s.heap.objs.size t 0 → (∀ b o, s.heap.get? b = some o → h'.get? b = some o) → Q (.ref (s.heap.objs.size + 1)) { s with heap := h' }) :
    wpAny (model prog w) A (call (.type "enumerate") [.ref t]) Q E s := by
  refine callType_new F.called_enumerate (by decide) (F.typeCall_enumerate_1 _) (F.newCall_enumerate_1 _) (fun obj => F.args_object_init_2 obj _) F.entry_enumerate_new (enumT_new t items) ⟨ht, ?_⟩
  show _ ∧ _
  rw [show (s.heap.push ({ cls := .type "tuple_iterator", data := .fields #[.ref t, .int 0 0] } : Obj)).objs.size = s.heap.objs.size + 1 from Heap.size_push ..]
  have he : IsEnum ((s.heap.push { cls := .type "tuple_iterator", data := .fields #[.ref t, .int 0 0] }).push { cls := .type "enumerate", data := .fields #[.none, .bool false, .ref s.heap.objs.size, rawInt 0, .none, .none] }) (s.heap.objs.size + 1) s.heap.objs.size 0 .none := by
    have y := Heap.get?_push_size (s.heap.push { cls := .type "tuple_iterator", data := .fields #[.ref t, .int 0 0] }) (o := { cls := .type "enumerate", data := .fields #[.none, .bool false, .ref s.heap.objs.size, rawInt 0, .none, .none] }) rfl
    rw [Heap.size_push] at y
    exact y
  exact ⟨⟨_, he, rfl⟩, q _ he ⟨_, Heap.get?_push_of_some _ (Heap.get?_push_size _ rfl), rfl, rfl⟩ fun b o x => Heap.get?_push_of_some _ (Heap.get?_push_of_some _ x)⟩
/-- the tuple at a, each item in a new pair with its number -/
def IteT (K : PySem.W.Frag) (a : Addr) : It :=
  ⟨fun i H => ∃ (xs : List V) (x : V), SqT K H a xs ∧ xs[i]? = some x, fun i H v H' => ∃ p x, v = .ref p ∧ H p = none ∧ H' = upd H p (.tup [.int (i : Nat), x]) ∧ ∀ xs, SqT K H a xs → xs[i]? = some x, fun i H => ∃ xs : List V, SqT K H a xs ∧ xs.length = i⟩
theorem turn_enumT {P : Program} {w : World} {K : PySem.W.Frag} {elts : List Expr} {kk : Nat} {tpos : Pos} (a e it : Addr) (hei : e ≠ it) (hai : a ≠ it) (hea : e ≠ a) :
    Turn P w K (.Tuple elts kk tpos) (IteT K a) [e, it] e (fun i h => (∃ old, IsEnum h e it ((i : Nat) : Int) old) ∧ h.IsTupleIter it a i) where
  mem := by simp
  obj := fun i h st b hb => by
    obtain ⟨⟨old, he⟩, ⟨o, ho, _, hd⟩⟩ := st
    rcases (show b = e ∨ b = it by simpa using hb) with z | z <;> subst z
    · exact ⟨_, he, fun v q => nomatch q⟩
    · exact ⟨o, ho, fun v q => by rw [hd] at q; cases q⟩
  keep := fun i h h' st k => let ⟨⟨old, he⟩, hi⟩ := st; ⟨⟨old, k e (by simp) _ he⟩, hi.at fun o q => k it (by simp) o q⟩
  item := by
    intro X hP hw hK hc i pins s σ H E I hf st hg
    subst hP hw hK
    obtain ⟨⟨old, he⟩, hit⟩ := st
    obtain ⟨xs, x, hq, hx⟩ := hg
    obtain ⟨its, rv, p, hz⟩ := I.tuple hq
    obtain ⟨u, hu, ru⟩ := rv.get hx
    have hel : e < s.heap.objs.size := Heap.lt_size he
    have hil : it < s.heap.objs.size := by obtain ⟨_, q, _⟩ := hit; exact Heap.lt_size q
    have pT : s.heap.IsTuple a its.toArray := p
    have hh : X.A.in1.handled = none := I.ok.hd hc
    have hu' : its.toArray[i]? = some u := by simpa using hu
    have hlt : i < its.toArray.size := (Array.getElem?_eq_some_iff.mp hu').1
    refine wpAny_pyNext_enum_itemC (Draws.tuple (prog := X.prog) (w := X.w) hh it a hai its.toArray) he ⟨hit, pT⟩ hlt hei (by simp [hei, hea]) fun y h' tk hy ho hst hT hsz hk => ?_
    have hyu : y = u := Option.some.inj (hy.symm.trans hu')
    subst hyu
    refine ⟨_, rfl, wpAny_letOwnedTupleGo_enum (s := { s with heap := h', toks := tk + 1 }) ho fun h'' he' sb => ?_⟩
    have hT2 : h''.get? s.heap.objs.size = some { cls := .type "tuple", data := .seq #[.int i tk, y] } := (sb.2 _ (Nat.ne_of_gt hel)).trans hT
    have new : ObjOk X.prog X.w (upd H s.heap.objs.size (.tup [.int (i : Nat), x])) h'' s.heap.objs.size (.tup [.int (i : Nat), x]) :=
      ⟨by show 2 ≤ sizeLine; decide, [.int i tk, y], .cons ⟨_, rfl⟩ (.cons ru .nil), ⟨_, hT2, rfl, _, rfl⟩⟩
    have I1 : Inv X pins σ (upd H s.heap.objs.size (.tup [.int (i : Nat), x])) { s with heap := h'', toks := tk + 1 } :=
      I.turnedNew (ch := [e, it]) (fun b ob hb q => (sb.2 b (fun z => hb (by simp [z]))).trans (hk b ob (fun z => hb (by simp [z])) (fun z => hb (by simp [z])) q)) hf (Nat.le_refl _) new
    refine ⟨.ref s.heap.objs.size, _, I1, rfl, ⟨_, x, rfl, I.hok.fresh (Nat.le_refl _), rfl, fun ys hy => by rw [I.tuple_inj hy hq]; exact hx⟩, ⟨⟨y, ?_⟩, hst.1.at fun o q => (sb.2 it (Ne.symm hei)).trans q⟩, fun b hb => ?_⟩
    · have e1 : ((i + 1 : Nat) : Int) = (i : Int) + 1 := by omega
      rw [e1]; exact he'
    · have hb' : b < s.heap.objs.size := by
        rcases (show b = e ∨ b = it by simpa using hb) with z | z <;> subst z
        · exact hel
        · exact hil
      rw [upd_ne (Nat.ne_of_lt hb')]
      exact (hf b hb).1
  done := by
    intro X hP hw hK hc i pins s σ H E I hf st hg
    subst hP hw hK
    obtain ⟨⟨old, he⟩, hit⟩ := st
    obtain ⟨xs, hq, hx⟩ := hg
    obtain ⟨its, rv, p, hz⟩ := I.tuple hq
    obtain ⟨f0, f1, f2, f3, f4, f5⟩ := hf it (by simp)
    have pT : s.heap.IsTuple a its.toArray := p
    have hh : X.A.in1.handled = none := I.ok.hd hc
    have hl := rv.length
    have hsz : its.toArray.size = i := by simp; omega
    have st2 : s.heap.IsTupleIter it a its.toArray.size ∧ s.heap.IsTuple a its.toArray := ⟨by rw [hsz]; exact hit, pT⟩
    exact wpAny_pyNext_enum_endD (Draws.tuple (prog := X.prog) (w := X.w) hh it a hai its.toArray) he st2 fun h' eb => ⟨rfl, I.turned (t' := s.toks) (fun b o hb q => eb b o hb q) f0 f1 f3 f4 f5⟩
  self := fun A i s Q E st h => let ⟨⟨_, he⟩, _⟩ := st; wpAny_pyIter_enum he h
end Cb
/-! The Cb layer, part 9: loops. -/
namespace Cb
open PySem PySem.Spec PyProof.Rows L2

/-! ### a list or a tuple, with or without its numbers -/
def iSeq (K : PySem.W.Frag) (tl : TE) : TI := fun σ H R => tl σ H fun x H1 => ∃ a, x = .ref a ∧ (((∃ xs, SqL K H1 a xs) ∧ R (Itl K a) H1) ∨ ((∃ xs, SqT K H1 a xs) ∧ R (Itt K a) H1))
theorem pi_seq {X : Cx} {tg l : Expr} {tl : TE} (hl : PE X l tl) : PI X tg l (iSeq X.K tl) := by
  refine ⟨fun pins s σ H R I h => ?_⟩
  refine thn (hl.run pins s σ H _ I h) fun v s1 ⟨x, H1, I1, r1, a, e, q⟩ => ?_
  subst e
  cases r1
  have top : ∀ b ∈ [s1.heap.objs.size], FpOk X pins H1 b := fun b hb => by
    obtain rfl : b = s1.heap.objs.size := by simpa using hb
    exact I1.fpOk (Nat.le_refl _) (I1.hok.fresh (Nat.le_refl _))
  rcases q with ⟨⟨xs, hq⟩, q⟩ | ⟨⟨xs, hq⟩, q⟩
  · obtain ⟨its, rv, pl, _⟩ := I1.list hq
    exact wpAny_pyIter_list pl.isList ⟨_, [s1.heap.objs.size], _, _, H1, rfl, I1.kept (t' := s1.toks) (fun b o e => Heap.get?_push_of_some _ e), turn_list a _, ⟨_, Heap.get?_push_size _ rfl, rfl, rfl⟩, top, q⟩
  · obtain ⟨its, rv, pt, _⟩ := I1.tuple hq
    exact wpAny_pyIter_tuple (show s1.heap.IsTuple a its.toArray from pt) ⟨_, [s1.heap.objs.size], _, _, H1, rfl, I1.kept (t' := s1.toks) (fun b o e => Heap.get?_push_of_some _ e), turn_tuple a _, ⟨_, Heap.get?_push_size _ rfl, rfl, rfl⟩, top, q⟩
def iEnumA (K : PySem.W.Frag) (ta : TA) : TI := fun σ H R => ta σ H fun vs H1 => ∃ a, vs = [.ref a] ∧ (((∃ xs, SqL K H1 a xs) ∧ R (Ite K a) H1) ∨ ((∃ xs, SqT K H1 a xs) ∧ R (IteT K a) H1))
theorem pi_enumA {X : Cx} {e : Expr} {ta : TA} {p pos tpos : Pos} {elts : List Expr} {kk : Nat} (hg : Gl X "enumerate") (hm : X.mg "enumerate" = none) (ha : PA X [e] ta) (hs : starEach [e] X.env = [(false, eval e X.env)] := by rfl) :
    PI X (.Tuple elts kk tpos) (.Call (.Name "enumerate" p) [e] [] pos) (iEnumA X.K ta) := by
  refine ⟨fun pins s σ H R I h => ?_⟩
  refine Call_ (ld_blt I hg hm boot_enumerate (callWith_type1 (thn (ha.run pos pins s σ H _ I h) fun us s1 ⟨vs, H1, I1, r1, a, ex, q⟩ => ?_) hs rfl))
  subst ex
  obtain ⟨u, rfl, ru⟩ := vals1 r1
  cases ru
  have top : ∀ b ∈ [s1.heap.objs.size + 1, s1.heap.objs.size], FpOk X pins H1 b := fun b hb => by
    have hle : s1.heap.objs.size ≤ b := by
      rcases (show b = s1.heap.objs.size + 1 ∨ b = s1.heap.objs.size by simpa using hb) with z | z <;> omega
    exact I1.fpOk hle (I1.hok.fresh hle)
  rcases q with ⟨⟨xs, hq⟩, q⟩ | ⟨⟨xs, hq⟩, q⟩
  · obtain ⟨its, rv, pl, _⟩ := I1.list hq
    exact call_enumerate_list pl.isList fun h' he hit hsz hk => wpAny_pyIter_enum he ⟨_, _, _, _, H1, rfl, I1.kept (h' := h') (t' := s1.toks) hk, turn_enum a (s1.heap.objs.size + 1) s1.heap.objs.size, ⟨⟨.none, he⟩, hit, Nat.succ_ne_self _⟩, top, q⟩
  · obtain ⟨its, rv, pt, _⟩ := I1.tuple hq
    have ha1 : a < s1.heap.objs.size := by obtain ⟨o, e1, _⟩ := pt; exact Heap.lt_size e1
    exact call_enumT (show s1.heap.IsTuple a its.toArray from pt) fun h' he hit hk => wpAny_pyIter_enum he ⟨_, _, _, _, H1, rfl, I1.kept (h' := h') (t' := s1.toks) hk, turn_enumT a (s1.heap.objs.size + 1) s1.heap.objs.size (Nat.succ_ne_self _) (Nat.ne_of_lt ha1) (Nat.ne_of_gt (Nat.lt_succ_of_lt ha1)), ⟨⟨.none, he⟩, hit⟩, top, q⟩

/-! ### what is walked: the items, and the mutable lists that must stay meanwhile -/
structure Wk where
  items : List D
  src : List (Nat × List D)
noncomputable def okS : List (Nat × List D) → AH → Bool
  | [], _ => true
  | (k, l) :: r, h => @decide _ (Classical.propDecidable (cellL h k = some l)) && okS r h
def Yields (B : Tab) (T m0 : List Addr) (H0 : Hp) (w : Wk) (J : It) : Prop :=
  ∀ (T' : List Addr) (i : Nat) (m : List Addr) (H : Hp) (h : AH), TExt T H0 T' → Ext m0 H0 m H → RelH B T' m H h → okS w.src h = true →
    (∀ d, w.items[i]? = some d → J.go i H ∧ ∀ x H', J.yld i H x H' → Ext m H m H' ∧ RelH B T' m H' h ∧ Rep B T' m H' d x) ∧ (i = w.items.length → J.stop i H)
def EI (X : Cx) (B : Tab) (W : WX) (tg iter : Expr) (f : En → AH → Res Wk) : Prop :=
  ∃ wi, PI X tg iter wi ∧ ∀ T m σ H en h R, RelH B T m H h → RelE B T m H en σ → Po (fun m H w J => Yields B T m H w J) B W T m σ H R (f en h) → wi σ H R
def wkL (d : D) (h : AH) : Res Wk := match d with
  | .ref k => (match cellL h k with
    | some l => .ok ⟨l, [(k, l)]⟩ h
    | none => .stuck)
  | d => (match asS h d with
    | some l => .ok ⟨l, []⟩ h
    | none => .stuck)
theorem sqL_ext {K : PySem.W.Frag} {m m' : List Addr} {H H' : Hp} {a : Addr} {xs : List V} (x : Ext m H m' H') (ha : a ∉ m) (s : SqL K H a xs) : SqL K H' a xs := by
  rcases s with s | s
  · exact .inl (x.rd ha s)
  · exact .inr s
theorem sqT_ext {K : PySem.W.Frag} {m m' : List Addr} {H H' : Hp} {a : Addr} {xs : List V} (x : Ext m H m' H') (ha : a ∉ m) (s : SqT K H a xs) : SqT K H' a xs := by
  rcases s with s | s
  · exact .inl (x.rd ha s)
  · exact .inr s
theorem okS_one {k : Nat} {l : List D} {h : AH} (e : okS [(k, l)] h = true) : cellL h k = some l := by
  unfold okS at e
  exact @of_decide_eq_true _ (Classical.propDecidable _) (Bool.and_eq_true_iff.mp e).1
/-- what a list or tuple gives: either kind, with the items -/
inductive SeqOf (B : Tab) (T m : List Addr) (H : Hp) (w : Wk) (a : Addr) : Prop
  | lst (xs : List V) (s : SqL B.K H a xs) (st : ∀ T' m' H' h', TExt T H T' → Ext m H m' H' → RelH B T' m' H' h' → okS w.src h' = true → ∃ ys, SqL B.K H' a ys ∧ Reps B T' m' H' w.items ys)
  | tup (xs : List V) (s : SqT B.K H a xs) (st : ∀ T' m' H', TExt T H T' → Ext m H m' H' → ∃ ys, SqT B.K H' a ys ∧ Reps B T' m' H' w.items ys)
section
variable {B : Tab} {W : WX} {T m : List Addr} {σ : L2.St} {H : Hp} {h : AH}
theorem wkL_run {β : Type} {Rr : List Addr → Hp → Wk → β → Prop} {Q : β → Hp → Prop} {d : D} {v : V} (R : RelH B T m H h) (r : Rep B T m H d v) (p : Po Rr B W T m σ H Q (wkL d h)) : ∃ a w, v = .ref a ∧ SeqOf B T m H w a ∧ wkL d h = .ok w h := by
  cases r with
  | @ref k a hk =>
    have p : Po Rr B W T m σ H Q (match cellL h k with
      | some l => .ok ⟨l, [(k, l)]⟩ h
      | none => .stuck) := p
    cases q : cellL h k with
    | none => rw [q] at p; exact p.elim
    | some l =>
      obtain ⟨xs, e, rs⟩ := cell_at R q hk
      refine ⟨a, ⟨l, [(k, l)]⟩, rfl, .lst xs (SqL.of e) fun T' m' H' h' t x R' o => ?_, by show (match cellL h k with | some l => _ | none => _) = _; rw [q]⟩
      obtain ⟨ys, e2, rs2⟩ := cell_at R' (okS_one o) (x.at hk)
      exact ⟨ys, SqL.of e2, rs2⟩
  | @tup ds a xs h1 h2 hr rs => exact ⟨a, ⟨ds, []⟩, rfl, .tup xs (SqT.of hr) fun T' m' H' t x => ⟨xs, SqT.of (x.keep _ _ h1 hr), rs.mv x t⟩, rfl⟩
  | @lst ds a xs h1 h2 hr rs => exact ⟨a, ⟨ds, []⟩, rfl, .lst xs (SqL.of hr) fun T' m' H' h' t x _ _ => ⟨xs, SqL.of (x.keep _ _ h1 hr), rs.mv x t⟩, rfl⟩
  | @fix l a hf =>
    refine ⟨a, ⟨l.map D.int, []⟩, rfl, .lst (l.map V.int) ?_ fun T' m' H' h' t x _ _ => ⟨l.map V.int, ?_, Reps.ints l⟩, rfl⟩
    · rcases hf with ⟨_, _, q⟩ | q
      · exact .inl q
      · exact .inr q
    · rcases hf with ⟨n1, _, q⟩ | q
      · exact .inl (x.rd n1 q)
      · exact .inr q
  | _ => exact p.elim
end
/-- the seq's items at a turn -/
theorem yields_list {B : Tab} {T m : List Addr} {H : Hp} {w : Wk} {a : Addr} (st : ∀ T' m' H' h', TExt T H T' → Ext m H m' H' → RelH B T' m' H' h' → okS w.src h' = true → ∃ ys, SqL B.K H' a ys ∧ Reps B T' m' H' w.items ys) : Yields B T m H w (Itl B.K a) := by
  intro T' i m' H' h' t x R' o
  obtain ⟨ys, s, rs⟩ := st T' m' H' h' t x R' o
  refine ⟨fun d hd => ?_, fun e => ⟨ys, s, by rw [← rs.length, e]; exact Nat.le_refl _⟩⟩
  obtain ⟨v, ev, r⟩ := rs.get hd
  refine ⟨⟨ys, v, s, ev⟩, fun y H2 hy => ?_⟩
  obtain ⟨rfl, f⟩ := hy
  have e2 := f _ s
  rw [ev] at e2
  cases e2
  exact ⟨Ext.refl _ _, R', r⟩
theorem yields_tup {B : Tab} {T m : List Addr} {H : Hp} {w : Wk} {a : Addr} (st : ∀ T' m' H', TExt T H T' → Ext m H m' H' → ∃ ys, SqT B.K H' a ys ∧ Reps B T' m' H' w.items ys) : Yields B T m H w (Itt B.K a) := by
  intro T' i m' H' h' t x R' o
  obtain ⟨ys, s, rs⟩ := st T' m' H' t x
  refine ⟨fun d hd => ?_, fun e => ⟨ys, s, by rw [← rs.length, e]; exact Nat.le_refl _⟩⟩
  obtain ⟨v, ev, r⟩ := rs.get hd
  refine ⟨⟨ys, v, s, ev⟩, fun y H2 hy => ?_⟩
  obtain ⟨rfl, f⟩ := hy
  have e2 := f _ s
  rw [ev] at e2
  cases e2
  exact ⟨Ext.refl _ _, R', r⟩
/-- pairs with the numbers -/
def numd : Nat → List D → List D
  | _, [] => []
  | i, d :: l => .tup [.int (i : Nat), d] :: numd (i + 1) l
theorem numd_get : ∀ (l : List D) (k i : Nat), (numd k l)[i]? = (l[i]?).map fun d => .tup [.int ((k + i : Nat) : Int), d]
  | [], _, _ => by simp [numd]
  | d :: l, k, 0 => by simp [numd]
  | d :: l, k, i + 1 => by
    show (numd (k + 1) l)[i]? = _
    rw [numd_get l (k + 1) i, List.getElem?_cons_succ, show k + 1 + i = k + (i + 1) by omega]
theorem numd_length : ∀ (l : List D) (k : Nat), (numd k l).length = l.length
  | [], _ => rfl
  | d :: l, k => by show (numd (k + 1) l).length + 1 = l.length + 1; rw [numd_length l (k + 1)]
def wkE (d : D) (h : AH) : Res Wk := (wkL d h).bind fun w h1 => .ok ⟨numd 0 w.items, w.src⟩ h1
theorem yields_enum {B : Tab} {T m : List Addr} {H : Hp} {w : Wk} {a : Addr} (st : ∀ T' m' H' h', TExt T H T' → Ext m H m' H' → RelH B T' m' H' h' → okS w.src h' = true → ∃ ys, SqL B.K H' a ys ∧ Reps B T' m' H' w.items ys) : Yields B T m H ⟨numd 0 w.items, w.src⟩ (Ite B.K a) := by
  intro T' i m' H' h' t x R' o
  obtain ⟨ys, s, rs⟩ := st T' m' H' h' t x R' o
  refine ⟨fun d hd => ?_, fun e => ⟨ys, s, by rw [← rs.length, e, numd_length]; exact Nat.le_refl _⟩⟩
  rw [numd_get] at hd
  cases z : w.items[i]? with
  | none => rw [z] at hd; cases hd
  | some d0 =>
    rw [z] at hd
    cases hd
    obtain ⟨v, ev, r⟩ := rs.get z
    refine ⟨⟨ys, v, s, ev⟩, fun y H2 hy => ?_⟩
    obtain ⟨p, v2, rfl, n, rfl, f⟩ := hy
    have e2 := f _ s
    rw [ev] at e2
    cases e2
    rw [Nat.zero_add]
    exact ⟨ext_new n, R'.new n, rep_tup R' (.cons (.int _) (.cons r .nil)) n⟩
theorem yields_enumT {B : Tab} {T m : List Addr} {H : Hp} {w : Wk} {a : Addr} (st : ∀ T' m' H', TExt T H T' → Ext m H m' H' → ∃ ys, SqT B.K H' a ys ∧ Reps B T' m' H' w.items ys) : Yields B T m H ⟨numd 0 w.items, w.src⟩ (IteT B.K a) := by
  intro T' i m' H' h' t x R' o
  obtain ⟨ys, s, rs⟩ := st T' m' H' t x
  refine ⟨fun d hd => ?_, fun e => ⟨ys, s, by rw [← rs.length, e, numd_length]⟩⟩
  rw [numd_get] at hd
  cases z : w.items[i]? with
  | none => rw [z] at hd; cases hd
  | some d0 =>
    rw [z] at hd
    cases hd
    obtain ⟨v, ev, r⟩ := rs.get z
    refine ⟨⟨ys, v, s, ev⟩, fun y H2 hy => ?_⟩
    obtain ⟨p, v2, rfl, n, rfl, f⟩ := hy
    have e2 := f _ s
    rw [ev] at e2
    cases e2
    rw [Nat.zero_add]
    exact ⟨ext_new n, R'.new n, rep_tup R' (.cons (.int _) (.cons r .nil)) n⟩
section
variable {X : Cx} {B : Tab} {W : WX} {tg e a b c : Expr} {p pos : Pos} {fe fa fb fc : En → AH → Res D} {fs : En → AH → Res (List D)}
theorem ei_seq (G : Good X B) (he : EE X B W e fe) : EI X B W tg e (fun en h => (fe en h).bind wkL) := by
  obtain ⟨te, pe, qe⟩ := he
  refine ⟨_, pi_seq pe, fun T m σ H en h R Rh Re p => qe T m σ H en h _ Rh Re (p.bind fun d h1 m1 v H1 x1 R1 r1 p1 => ?_)⟩
  obtain ⟨a, w, rfl, s, e1⟩ := wkL_run R1 r1 p1
  rw [e1] at p1
  refine ⟨a, rfl, ?_⟩
  cases s with
  | lst xs s st => rw [G.K] at s; exact .inl ⟨⟨xs, s⟩, by rw [← G.K]; exact p1 m1 _ H1 (Ext.refl _ _) R1 (yields_list st)⟩
  | tup xs s st => rw [G.K] at s; exact .inr ⟨⟨xs, s⟩, by rw [← G.K]; exact p1 m1 _ H1 (Ext.refl _ _) R1 (yields_tup st)⟩
theorem ei_enum {elts : List Expr} {kk : Nat} {tpos : Pos} (G : Good X B) (hm : X.mg "enumerate" = none) (he : EE X B W e fe) (hg : Gl X "enumerate" := by rfl) (hs : starEach [e] X.env = [(false, eval e X.env)] := by rfl) :
    EI X B W (.Tuple elts kk tpos) (.Call (.Name "enumerate" p) [e] [] pos) (fun en h => (fe en h).bind wkE) := by
  obtain ⟨te, pe, qe⟩ := he
  refine ⟨_, pi_enumA hg hm (pa_cons pe pa_nil hs) hs, fun T m σ H en h R Rh Re p => qe T m σ H en h _ Rh Re (p.bind fun d h1 m1 v H1 x1 R1 r1 p1 => ?_)⟩
  have p2 : Po (fun m H w J => Yields B T m H w J) B W T m1 σ H1 R ((wkL d h1).bind fun w h1 => .ok ⟨numd 0 w.items, w.src⟩ h1) := p1
  have p3 : Po (fun (m : List Addr) (H : Hp) (w : Wk) (J : Unit) => True) B W T m1 σ H1 (fun _ _ => True) (wkL d h1) := by
    cases z : wkL d h1 with
    | stuck => rw [z] at p2; exact p2.elim
    | ok w h' => exact fun _ _ _ _ _ _ => trivial
    | exc cc dd h' =>
      exfalso
      unfold wkL at z
      repeat' split at z
      all_goals cases z
  obtain ⟨a, w, rfl, s, e1⟩ := wkL_run R1 r1 p3
  rw [e1] at p2
  refine ⟨a, rfl, ?_⟩
  cases s with
  | lst xs s st => rw [G.K] at s; exact .inl ⟨⟨xs, s⟩, by rw [← G.K]; exact p2 m1 _ H1 (Ext.refl _ _) R1 (yields_enum st)⟩
  | tup xs s st => rw [G.K] at s; exact .inr ⟨⟨xs, s⟩, by rw [← G.K]; exact p2 m1 _ H1 (Ext.refl _ _) R1 (yields_enumT st)⟩
/-- the ints lo, lo + c, .. -/
def rngI (lo c : Int) (n : Nat) : List D := (List.range n).map fun (i : Nat) => D.int (lo + (i : Int) * c)
theorem yields_rng {T m : List Addr} {H : Hp} {lo : Int} {n : Nat} : Yields B T m H ⟨rngI lo 1 n, []⟩ (Itr lo n) := by
  intro T' i m' H' h' t x R' o
  have hlen : (rngI lo 1 n).length = n := by simp [rngI]
  refine ⟨fun d hd => ?_, fun e => Nat.le_of_eq (by rw [e]; exact hlen.symm)⟩
  have hi : i < n := by
    have := (List.getElem?_eq_some_iff.mp hd).1
    rw [← hlen]; exact this
  refine ⟨hi, fun y H2 hy => ?_⟩
  obtain ⟨rfl, rfl⟩ := hy
  have e : (rngI lo 1 n)[i]? = some (.int (lo + (i : Int) * 1)) := by
    unfold rngI
    rw [List.getElem?_map, List.getElem?_range hi] <;> rfl
  have hd : (rngI lo 1 n)[i]? = some d := hd
  rw [e, Int.mul_one] at hd
  cases hd
  exact ⟨Ext.refl _ _, R', .int _⟩
def wkR1 (fa : En → AH → Res D) : En → AH → Res Wk := fun en h => (fa en h).bind fun d h1 => match d with
  | .int j => bif decide (j < 4611686018427387904) && decide (-4611686018427387904 ≤ j) then .ok ⟨rngI 0 1 j.toNat, []⟩ h1 else .stuck
  | _ => .stuck
theorem ei_range1 (hm : X.mg "range" = none) (ha : EE X B W a fa) (hg : Gl X "range" := by rfl) (hs : starEach [a] X.env = [(false, eval a X.env)] := by rfl) : EI X B W tg (.Call (.Name "range" p) [a] [] pos) (wkR1 fa) := by
  obtain ⟨ta, pa, qa⟩ := ha
  refine ⟨_, pi_range1 hg hm (pa_cons pa pa_nil hs) hs, fun T m σ H en h R Rh Re p => qa T m σ H en h _ Rh Re (p.bind fun d h1 m1 v H1 x1 R1 r1 p1 => ?_)⟩
  cases r1 with
  | int j =>
    have p1 : Po (fun m H w J => Yields B T m H w J) B W T m1 σ H1 R (bif decide (j < 4611686018427387904) && decide (-4611686018427387904 ≤ j) then .ok ⟨rngI 0 1 j.toNat, []⟩ h1 else .stuck) := p1
    cases q : decide (j < 4611686018427387904) && decide (-4611686018427387904 ≤ j) with
    | false => rw [q] at p1; exact p1.elim
    | true =>
      rw [q] at p1
      obtain ⟨q1, q2⟩ := Bool.and_eq_true_iff.mp q
      have q1 := of_decide_eq_true q1
      have q2 := of_decide_eq_true q2
      exact ⟨j, rfl, by omega, by omega, p1 m1 _ H1 (Ext.refl _ _) R1 yields_rng⟩
  | _ => exact p1.elim
def wkR2 (fa fb : En → AH → Res D) : En → AH → Res Wk := fun en h => (fa en h).bind fun d h1 => (fb en h1).bind fun e h2 => match d, e with
  | .int i, .int j => bif (decide (j < 4611686018427387904) && decide (-4611686018427387904 ≤ j)) && (decide (i < 4611686018427387904) && decide (-4611686018427387904 ≤ i)) then .ok ⟨rngI i 1 (j - i).toNat, []⟩ h2 else .stuck
  | _, _ => .stuck
theorem ei_range2 (hm : X.mg "range" = none) (ha : EE X B W a fa) (hb : EE X B W b fb) (hg : Gl X "range" := by rfl) (hs : starEach [a, b] X.env = [(false, eval a X.env), (false, eval b X.env)] := by rfl) (hs2 : starEach [b] X.env = [(false, eval b X.env)] := by rfl) (hs1 : starEach [a, b] X.env = (false, eval a X.env) :: starEach [b] X.env := by rfl) :
    EI X B W tg (.Call (.Name "range" p) [a, b] [] pos) (wkR2 fa fb) := by
  obtain ⟨ta, pa, qa⟩ := ha
  obtain ⟨tb, pb, qb⟩ := hb
  refine ⟨_, pi_range2 hg hm (pa_cons pa (pa_cons pb pa_nil hs2) hs1) hs hs2, fun T m σ H en h R Rh Re p => qa T m σ H en h _ Rh Re (p.bind fun d h1 m1 v H1 x1 R1 r1 p1 => ?_)⟩
  refine qb T m1 σ H1 en h1 _ R1 (Re.mono x1) (p1.bind fun e h2 m2 w H2 x2 R2 r2 p2 => ?_)
  cases r1 with
  | int i =>
    cases r2 with
    | int j =>
      have p2 : Po (fun m H w J => Yields B T m H w J) B W T m2 σ H2 R (bif (decide (j < 4611686018427387904) && decide (-4611686018427387904 ≤ j)) && (decide (i < 4611686018427387904) && decide (-4611686018427387904 ≤ i)) then .ok ⟨rngI i 1 (j - i).toNat, []⟩ h2 else .stuck) := p2
      cases q : (decide (j < 4611686018427387904) && decide (-4611686018427387904 ≤ j)) && (decide (i < 4611686018427387904) && decide (-4611686018427387904 ≤ i)) with
      | false => rw [q] at p2; exact p2.elim
      | true =>
        rw [q] at p2
        obtain ⟨q1, q2⟩ := Bool.and_eq_true_iff.mp q
        obtain ⟨q3, q4⟩ := Bool.and_eq_true_iff.mp q1
        obtain ⟨q5, q6⟩ := Bool.and_eq_true_iff.mp q2
        have q3 := of_decide_eq_true q3
        have q4 := of_decide_eq_true q4
        have q5 := of_decide_eq_true q5
        have q6 := of_decide_eq_true q6
        exact ⟨i, j, rfl, ⟨by omega, by omega, by omega, by omega⟩, p2 m2 _ H2 (Ext.refl _ _) R2 yields_rng⟩
    | _ => exact p2.elim
  | _ => exact p2.elim
theorem yields_rngC {T m : List Addr} {H : Hp} {lo c : Int} {n : Nat} : Yields B T m H ⟨rngI lo c n, []⟩ (Itc lo c n) := by
  intro T' i m' H' h' t x R' o
  have hlen : (rngI lo c n).length = n := by simp [rngI]
  refine ⟨fun d hd => ?_, fun e => Nat.le_of_eq (by rw [e]; exact hlen.symm)⟩
  have hi : i < n := by
    have := (List.getElem?_eq_some_iff.mp hd).1
    rw [← hlen]; exact this
  refine ⟨hi, fun y H2 hy => ?_⟩
  obtain ⟨rfl, rfl⟩ := hy
  have e : (rngI lo c n)[i]? = some (.int (lo + (i : Int) * c)) := by
    unfold rngI
    rw [List.getElem?_map, List.getElem?_range hi] <;> rfl
  have hd : (rngI lo c n)[i]? = some d := hd
  rw [e] at hd
  cases hd
  exact ⟨Ext.refl _ _, R', .int _⟩
/-- range(i, j, -1) -/
def wkR3 (fa fb fc : En → AH → Res D) : En → AH → Res Wk := fun en h => (fa en h).bind fun d h1 => (fb en h1).bind fun e h2 => (fc en h2).bind fun c h3 => match d, e, c with
  | .int i, .int j, .int k => bif decide (k = -1) && ((decide (j < 4611686018427387904) && decide (-4611686018427387904 ≤ j)) && (decide (i < 4611686018427387904) && decide (-4611686018427387904 ≤ i))) then .ok ⟨rngI i (-1) (i - j).toNat, []⟩ h3 else .stuck
  | _, _, _ => .stuck
theorem ei_range3 (hm : X.mg "range" = none) (ha : EE X B W a fa) (hb : EE X B W b fb) (hc : EE X B W c fc) (hg : Gl X "range" := by rfl) (hs : starEach [a, b, c] X.env = (false, eval a X.env) :: starEach [b, c] X.env := by rfl) (hs2 : starEach [b, c] X.env = (false, eval b X.env) :: starEach [c] X.env := by rfl)
    (hs3 : starEach [c] X.env = (false, eval c X.env) :: starEach [] X.env := by rfl) (hpl : (backTo pos (starEach [b, c] X.env)).any (·.1) = false := by rfl) :
    EI X B W tg (.Call (.Name "range" p) [a, b, c] [] pos) (wkR3 fa fb fc) := by
  obtain ⟨ta, pa, qa⟩ := ha
  obtain ⟨tb, pb, qb⟩ := hb
  obtain ⟨tc, pc, qc⟩ := hc
  refine ⟨_, pi_range3 hg hm (pa_cons pa (pa_cons pb (pa_cons pc pa_nil hs3) hs2) hs) hs hpl, fun T m σ H en h R Rh Re p => qa T m σ H en h _ Rh Re (p.bind fun d h1 m1 v H1 x1 R1 r1 p1 => ?_)⟩
  refine qb T m1 σ H1 en h1 _ R1 (Re.mono x1) (p1.bind fun e h2 m2 w H2 x2 R2 r2 p2 => ?_)
  refine qc T m2 σ H2 en h2 _ R2 ((Re.mono x1).mono x2) (p2.bind fun f h3 m3 w3 H3 x3 R3 r3 p3 => ?_)
  cases r1 with
  | int i =>
    cases r2 with
    | int j =>
      cases r3 with
      | int k =>
        have p4 : Po (fun m H w J => Yields B T m H w J) B W T m3 σ H3 R (bif decide (k = -1) && ((decide (j < 4611686018427387904) && decide (-4611686018427387904 ≤ j)) && (decide (i < 4611686018427387904) && decide (-4611686018427387904 ≤ i))) then .ok ⟨rngI i (-1) (i - j).toNat, []⟩ h3 else .stuck)   := p3
        clear p3
        cases q : decide (k = -1) && ((decide (j < 4611686018427387904) && decide (-4611686018427387904 ≤ j)) && (decide (i < 4611686018427387904) && decide (-4611686018427387904 ≤ i))) with
        | false => rw [q] at p4; exact p4.elim
        | true =>
          rw [q] at p4
          obtain ⟨q0, q⟩ := Bool.and_eq_true_iff.mp q
          obtain ⟨q1, q2⟩ := Bool.and_eq_true_iff.mp q
          obtain ⟨q3, q4⟩ := Bool.and_eq_true_iff.mp q1
          obtain ⟨q5, q6⟩ := Bool.and_eq_true_iff.mp q2
          have q0 := of_decide_eq_true q0
          have q3 := of_decide_eq_true q3
          have q4 := of_decide_eq_true q4
          have q5 := of_decide_eq_true q5
          have q6 := of_decide_eq_true q6
          subst q0
          exact ⟨i, j, -1, (i - j).toNat, rfl, RgC.neg (by omega) (by omega) (by omega) (by omega), p4 m3 _ H3 (Ext.refl _ _) R3 yields_rngC⟩
      | _ => exact p3.elim
    | _ => exact p3.elim
  | _ => exact p3.elim
end

/-! ### for -/
/-- the loop over what is walked -/
noncomputable def forL (src : List (Nat × List D)) (g : D → En → Option En) (body : En → AH → RS) : List D → En → AH → RS
  | [], en, h => bif okS src h then .nx en h else .stuck
  | d :: l, en, h => bif okS src h then (match g d en with
    | none => .stuck
    | some en' => (match body en' h with
      | .nx en2 h2 => forL src g body l en2 h2
      | .cont en2 h2 => forL src g body l en2 h2
      | .brk en2 h2 => .nx en2 h2
      | r => r)) else .stuck
noncomputable def sFor (fi : En → AH → Res Wk) (g : D → En → Option En) (body : En → AH → RS) : En → AH → RS := fun en h => (fi en h).bindS en fun w h1 => forL w.src g body w.items en h1
theorem ss_for {X : Cx} {B : Tab} {W : WX} {pos : Pos} {tg iter : Expr} {body : List Stmt} {fi : En → AH → Res Wk} {g : D → En → Option En} {fb : En → AH → RS} (G : Good X B) (hp : PassesOwn (model X.prog X.w) X.A X.env X.xe) (hi : EI X B W tg iter fi) {vs : List Nat} (hg : EGn X B tg vs g) (hb : SSs X B W body fb)
    (hs : ∀ x, foldedSetIterable iter X.env x = pure x := by intro _; rfl) : SS X B W (.For tg iter body [] pos) (sFor fi g fb) := by
  obtain ⟨wi, pi, qi⟩ := hi
  obtain ⟨tg', pg, qg⟩ := hg
  obtain ⟨tb, pb, qb⟩ := hb
  refine ⟨_, ps_for hp G.calm pi pg pb hs, fun T m σ H en h Z R Re p => qi T m σ H en h _ R Re (Po.bindS Re p fun w h1 m1 J H1 x1 R1 y p1 => ?_)⟩
  refine ⟨fun i n σ' H' => n = w.items.length - i ∧ i ≤ w.items.length ∧ ∃ m' en' h', Ext m1 H1 m' H' ∧ RelH B T m' H' h' ∧ RelE B T m' H' en' σ' ∧ PS_ B W T m' H' Z (forL w.src g fb (w.items.drop i) en' h'),
    ⟨w.items.length, by simp, Nat.zero_le _, m1, en, h1, Ext.refl _ _, R1, Re.mono x1, by simpa using p1⟩, ?_⟩
  rintro i n σ' H' ⟨rfl, hi, m', en', h', x', R', Re', p'⟩
  by_cases hlt : i < w.items.length
  · have ed : w.items.drop i = w.items[i] :: w.items.drop (i + 1) := List.drop_eq_getElem_cons hlt
    rw [ed] at p'
    have p' : PS_ B W T m' H' Z (bif okS w.src h' then (match g w.items[i] en' with
      | none => .stuck
      | some en' => (match fb en' h' with
        | .nx en2 h2 => forL w.src g fb (w.items.drop (i + 1)) en2 h2
        | .cont en2 h2 => forL w.src g fb (w.items.drop (i + 1)) en2 h2
        | .brk en2 h2 => .nx en2 h2
        | r => r)) else .stuck) := p'
    cases ok : okS w.src h' with
    | false => rw [ok] at p'; exact p'.elim
    | true =>
      rw [ok] at p'
      obtain ⟨yg, _⟩ := y T i m' H' h' (TExt.refl T H1) x' R' ok
      obtain ⟨go, yl⟩ := yg w.items[i] (List.getElem?_eq_getElem hlt)
      refine .inr ⟨go, fun σ2 H2 => ∃ m2 en2 h2, Ext m1 H1 m2 H2 ∧ RelH B T m2 H2 h2 ∧ RelE B T m2 H2 en2 σ2 ∧ PS_ B W T m2 H2 Z (forL w.src g fb (w.items.drop (i + 1)) en2 h2), fun σ2 H2 ⟨m2, en2, h2, a1, a2, a3, a4⟩ => ⟨_, by omega, rfl, hlt, m2, en2, h2, a1, a2, a3, a4⟩, fun xv H3 hy => ?_⟩
      obtain ⟨x3, R3, r3⟩ := yl xv H3 hy
      have p3 : PS_ B W T m' H3 Z (match g w.items[i] en' with
        | none => .stuck
        | some en' => (match fb en' h' with
          | .nx en2 h2 => forL w.src g fb (w.items.drop (i + 1)) en2 h2
          | .cont en2 h2 => forL w.src g fb (w.items.drop (i + 1)) en2 h2
          | .brk en2 h2 => .nx en2 h2
          | r => r)) := PS_.from x3 p'
      cases zg : g w.items[i] en' with
      | none => rw [zg] at p3; exact p3.elim
      | some en1 =>
        rw [zg] at p3
        refine qg T m' σ' H3 en' h' _ _ xv en1 R3 (Re'.mono x3) r3 zg fun σ1 Re1 _ => qb T m' σ1 H3 en1 h' _ R3 Re1 ?_
        have p4 : PS_ B W T m' H3 Z (match fb en1 h' with
          | .nx en2 h2 => forL w.src g fb (w.items.drop (i + 1)) en2 h2
          | .cont en2 h2 => forL w.src g fb (w.items.drop (i + 1)) en2 h2
          | .brk en2 h2 => .nx en2 h2
          | r => r) := p3
        cases zb : fb en1 h' with
        | stuck => rw [zb] at p4; exact p4
        | nx en2 h2 =>
          rw [zb] at p4
          exact fun m2 σ2 H2 x2 R2 Re2 => ⟨m2, en2, h2, (x'.trans x3).trans x2, R2, Re2, PS_.from x2 p4⟩
        | cont en2 h2 =>
          rw [zb] at p4
          exact fun m2 σ2 H2 x2 R2 Re2 => ⟨m2, en2, h2, (x'.trans x3).trans x2, R2, Re2, PS_.from x2 p4⟩
        | brk en2 h2 => rw [zb] at p4; exact p4
        | ret d h2 => rw [zb] at p4; exact p4
        | exc c d en2 h2 => rw [zb] at p4; exact p4
  · have e : i = w.items.length := by omega
    have ed : w.items.drop i = [] := by rw [e]; simp
    rw [ed] at p'
    have p' : PS_ B W T m' H' Z (bif okS w.src h' then .nx en' h' else .stuck) := p'
    cases ok : okS w.src h' with
    | false => rw [ok] at p'; exact p'.elim
    | true =>
      rw [ok] at p'
      exact .inl ⟨(y T i m' H' h' (TExt.refl T H1) x' R' ok).2 e, p' m' σ' H' (Ext.refl _ _) R' Re'⟩
end Cb
/-! The Cb layer, part 10: list comprehensions. -/
namespace Cb
open PySem PySem.Spec PyProof.Rows L2

/-! ### one reading for all contexts -/
def rd {α : Type} (B : Tab) (W : WX) {β : Type} (Rr : List Addr → List Addr → Hp → α → β → Prop) (f : En → AH → Res α) : L2.St → Hp → (β → Hp → Prop) → Prop :=
  fun σ H Q => ∃ T m en h, RelH B T m H h ∧ RelE B T m H en σ ∧ Po (Rr T) B W T m σ H Q (f en h)
theorem ee_rd {X : Cx} {B : Tab} {W : WX} {e : Expr} {f : En → AH → Res D} (he : EE X B W e f) : PE X e (rd B W (RD B) f) := by
  obtain ⟨t, p, q⟩ := he
  exact ⟨fun pins s σ H Q I ⟨T, m, en, h, R, Re, z⟩ => p.run pins s σ H Q I (q T m σ H en h Q R Re z)⟩
theorem et_rd {X : Cx} {B : Tab} {W : WX} {e : Expr} {f : En → AH → Res Bool} (he : ET X B W e f) : PT X e (rd B W (fun _ => RB) f) := by
  obtain ⟨t, p, q⟩ := he
  exact ⟨fun pins s σ H Q I ⟨T, m, en, h, R, Re, z⟩ => p.run pins s σ H Q I (q T m σ H en h Q R Re z)⟩
def rdG (B : Tab) (vs : List Nat) (f : D → En → Option En) : TG := fun v σ H Q => ∃ T m en h d en', RelH B T m H h ∧ RelE B T m H en σ ∧ Rep B T m H d v ∧ f d en = some en' ∧ (∀ σ', RelE B T m H en' σ' → Off vs σ σ' → Q σ' H)
theorem eg_rd {X : Cx} {B : Tab} {tg : Expr} {vs : List Nat} {f : D → En → Option En} (he : EGn X B tg vs f) : PG X tg (rdG B vs f) := by
  obtain ⟨t, p, q⟩ := he
  exact ⟨fun pins s σ H v w Q I r ⟨T, m, en, h, d, en', R, Re, rv, e, z⟩ => p.run pins s σ H v w Q I r (q T m σ H en h Q d v en' R Re rv e z)⟩

/-! ### the block's slots -/
def wipeE (en : En) : List Nat → En
  | [] => en
  | v :: vs => (wipeE en vs).set v none
theorem wipeE_length (en : En) : ∀ vs : List Nat, (wipeE en vs).length = en.length
  | [] => rfl
  | v :: vs => by unfold wipeE; rw [List.length_set, wipeE_length en vs]
theorem wipe_out' {σ : L2.St} {i : Nat} : ∀ {vs : List Nat}, i ∉ vs → (wipe σ vs)[i]? = σ[i]?
  | [], _ => rfl
  | v :: vs, h => by
    unfold wipe
    have h1 : v ≠ i := fun z => h (by simp [z])
    rw [List.getElem?_set_ne h1]
    exact wipe_out' fun z => h (List.mem_cons_of_mem _ z)
theorem wipe_in {σ : L2.St} {i : Nat} : ∀ {vs : List Nat}, i ∈ vs → (wipe σ vs)[i]? = (σ[i]?).map fun _ => none
  | [], h => by simp at h
  | v :: vs, h => by
    unfold wipe
    by_cases hv : v = i
    · subst hv
      by_cases hl : v < σ.length
      · rw [List.getElem?_set_self (by rw [wipe_length]; exact hl), List.getElem?_eq_getElem hl]; rfl
      · rw [List.getElem?_eq_none (by rw [List.length_set, wipe_length]; omega), List.getElem?_eq_none (by omega)]; rfl
    · rw [List.getElem?_set_ne hv]
      rcases List.mem_cons.mp h with z | z
      · exact absurd z.symm hv
      · exact wipe_in z
theorem wipe_off {vs us : List Nat} {σ σ' : L2.St} (o : Off us σ σ') (hs : ∀ i ∈ us, i ∈ vs) : wipe σ' vs = wipe σ vs := by
  apply List.ext_getElem?
  intro i
  by_cases hi : i ∈ vs
  · rw [wipe_in hi, wipe_in hi]
    by_cases hl : i < σ.length
    · rw [List.getElem?_eq_getElem hl, List.getElem?_eq_getElem (by rw [o.1]; exact hl)]; rfl
    · rw [List.getElem?_eq_none (l := σ') (by rw [o.1]; omega), List.getElem?_eq_none (l := σ) (by omega)]
  · rw [wipe_out' hi, wipe_out' hi]
    exact o.2 i fun z => hi (hs i z)
theorem wipe_wipe {σ : L2.St} {vs : List Nat} : wipe (wipe σ vs) vs = wipe σ vs := by
  apply List.ext_getElem?
  intro i
  by_cases hi : i ∈ vs
  · rw [wipe_in hi, wipe_in hi]; cases σ[i]? <;> rfl
  · rw [wipe_out' hi]
theorem RelE.wipe {B : Tab} {T m : List Addr} {H : Hp} {en : En} {σ : L2.St} (Re : RelE B T m H en σ) : ∀ vs : List Nat, RelE B T m H (wipeE en vs) (L2.wipe σ vs)
  | [] => Re
  | v :: vs => by
    have r := Re.wipe vs
    refine ⟨by unfold wipeE L2.wipe; rw [List.length_set, List.length_set]; exact r.len, fun i d e => ?_⟩
    unfold wipeE at e
    unfold L2.wipe
    by_cases hi : v = i
    · subst hi
      by_cases hl : v < (wipeE en vs).length
      · rw [List.getElem?_set_self hl] at e; cases e
      · rw [List.getElem?_eq_none (by rw [List.length_set]; omega)] at e; cases e
    · rw [List.getElem?_set_ne hi] at e ⊢
      exact r.at_ i d e

/-! ### the list under way -/
section
variable {B : Tab} {T m m' : List Addr} {H H' : Hp} {h h' : AH} {en : En} {σ : L2.St} {p : Addr} {o : HO}
mutual
theorem Rep.tset : ∀ {d : D} {v : V}, Rep B (p :: T) m H d v → Rep B (p :: T) m (upd H p o) d v
  | _, _, .non => .non
  | _, _, .bl b => .bl b
  | _, _, .int i => .int i
  | _, _, .str s => .str s
  | _, _, .tup h1 h2 r rs => .tup h1 h2 (by rw [upd_ne fun z => h2 (by rw [z]; exact List.mem_cons_self)]; exact r) (Reps.tset rs)
  | _, _, .lst h1 h2 r rs => .lst h1 h2 (by rw [upd_ne fun z => h2 (by rw [z]; exact List.mem_cons_self)]; exact r) (Reps.tset rs)
  | _, _, .fix h => .fix (by
      rcases h with ⟨h1, h2, r⟩ | h
      · refine .inl ⟨h1, h2, ?_⟩
        unfold Rd at r ⊢
        rw [upd_ne fun z => h2 (by rw [z]; exact List.mem_cons_self)]
        exact r
      · exact .inr h)
  | _, _, .ref h => .ref h
  | _, _, .obj h1 h2 h3 h4 h5 r1 r2 rs => .obj h1 h2 h3 h4 h5 (by rw [upd_ne fun z => h2 (by rw [z]; exact List.mem_cons_self)]; exact r1) (by rw [upd_ne fun z => h4 (by rw [z]; exact List.mem_cons_self)]; exact r2) (Reps.tset rs)
theorem Reps.tset : ∀ {ds : List D} {vs : List V}, Reps B (p :: T) m H ds vs → Reps B (p :: T) m (upd H p o) ds vs
  | _, _, .nil => .nil
  | _, _, .cons r rs => .cons (Rep.tset r) (Reps.tset rs)
end
mutual
theorem Rep.tless : ∀ {d : D} {v : V}, Rep B (p :: T) m H d v → Rep B T m H d v
  | _, _, .non => .non
  | _, _, .bl b => .bl b
  | _, _, .int i => .int i
  | _, _, .str s => .str s
  | _, _, .tup h1 h2 r rs => .tup h1 (fun z => h2 (List.mem_cons_of_mem _ z)) r (Reps.tless rs)
  | _, _, .lst h1 h2 r rs => .lst h1 (fun z => h2 (List.mem_cons_of_mem _ z)) r (Reps.tless rs)
  | _, _, .fix h => .fix (by
      rcases h with ⟨h1, h2, r⟩ | h
      · exact .inl ⟨h1, fun z => h2 (List.mem_cons_of_mem _ z), r⟩
      · exact .inr h)
  | _, _, .ref h => .ref h
  | _, _, .obj h1 h2 h3 h4 h5 r1 r2 rs => .obj h1 (fun z => h2 (List.mem_cons_of_mem _ z)) h3 (fun z => h4 (List.mem_cons_of_mem _ z)) h5 r1 r2 (Reps.tless rs)
theorem Reps.tless : ∀ {ds : List D} {vs : List V}, Reps B (p :: T) m H ds vs → Reps B T m H ds vs
  | _, _, .nil => .nil
  | _, _, .cons r rs => .cons (Rep.tless r) (Reps.tless rs)
end
mutual
/-- the list under way becomes a mutable one -/
theorem Rep.tcell : ∀ {d : D} {v : V}, Rep B (p :: T) m H d v → Rep B T (m ++ [p]) H d v
  | _, _, .non => .non
  | _, _, .bl b => .bl b
  | _, _, .int i => .int i
  | _, _, .str s => .str s
  | _, _, .tup h1 h2 r rs => .tup (fun z => by rcases List.mem_append.mp z with z | z; exact h1 z; simp at z; exact h2 (by simp [z])) (fun z => h2 (List.mem_cons_of_mem _ z)) r (Reps.tcell rs)
  | _, _, .lst h1 h2 r rs => .lst (fun z => by rcases List.mem_append.mp z with z | z; exact h1 z; simp at z; exact h2 (by simp [z])) (fun z => h2 (List.mem_cons_of_mem _ z)) r (Reps.tcell rs)
  | _, _, .fix h => .fix (by
      rcases h with ⟨h1, h2, r⟩ | h
      · exact .inl ⟨fun z => by rcases List.mem_append.mp z with z | z; exact h1 z; simp at z; exact h2 (by simp [z]), fun z => h2 (List.mem_cons_of_mem _ z), r⟩
      · exact .inr h)
  | _, _, .ref h => .ref (by rw [List.getElem?_append_left (List.getElem?_eq_some_iff.mp h).1]; exact h)
  | _, _, .obj h1 h2 h3 h4 h5 r1 r2 rs => .obj (fun z => by rcases List.mem_append.mp z with z | z; exact h1 z; simp at z; exact h2 (by simp [z])) (fun z => h2 (List.mem_cons_of_mem _ z)) (fun z => by rcases List.mem_append.mp z with z | z; exact h3 z; simp at z; exact h4 (by simp [z])) (fun z => h4 (List.mem_cons_of_mem _ z)) h5 r1 r2 (Reps.tcell rs)
theorem Reps.tcell : ∀ {ds : List D} {vs : List V}, Reps B (p :: T) m H ds vs → Reps B T (m ++ [p]) H ds vs
  | _, _, .nil => .nil
  | _, _, .cons r rs => .cons (Rep.tcell r) (Reps.tcell rs)
end
theorem RepP.tset {κ : Type} {kvs : List (κ × D)} {xs : List (κ × V)} (r : RepP B (p :: T) m H kvs xs) : RepP B (p :: T) m (upd H p o) kvs xs := ⟨r.1, r.2.tset⟩
theorem RelH.tset (R : RelH B (p :: T) m H h) : RelH B (p :: T) m (upd H p o) h := by
  have hp := (R.tl p List.mem_cons_self).2
  refine ⟨R.len, R.nd, fun k c e => ?_, fun a ha => ⟨?_, (R.tl a ha).2⟩⟩
  · obtain ⟨a, e1, q⟩ := R.cell k c e
    have ne : a ≠ p := fun z => hp (z ▸ List.mem_of_getElem? e1)
    refine ⟨a, e1, ?_⟩
    cases c <;> (obtain ⟨xs, e2, r⟩ := q; exact ⟨xs, by rw [upd_ne ne]; exact e2, r.tset⟩)
  · unfold upd
    split
    · exact fun z => nomatch z
    · exact (R.tl a ha).1
theorem RelE.tset (R : RelE B (p :: T) m H en σ) : RelE B (p :: T) m (upd H p o) en σ := ⟨R.len, fun i d e => let ⟨v, e1, r⟩ := R.at_ i d e; ⟨v, e1, r.tset⟩⟩
theorem RelE.tless (R : RelE B (p :: T) m H en σ) : RelE B T m H en σ := ⟨R.len, fun i d e => let ⟨v, e1, r⟩ := R.at_ i d e; ⟨v, e1, r.tless⟩⟩
theorem RelE.mv (x : Ext m H m' H') {T' : List Addr} (t : TExt T H T') (R : RelE B T m H en σ) : RelE B T' m' H' en σ := ⟨R.len, fun i d e => let ⟨v, e1, r⟩ := R.at_ i d e; ⟨v, e1, r.mv x t⟩⟩
theorem RelH.tnew (R : RelH B T m H h) (n : H p = none) : RelH B (p :: T) m (upd H p o) h := by
  have x : Ext m H m (upd H p o) := ext_new n
  have R2 : RelH B T m (upd H p o) h := R.new n
  refine ⟨R.len, R.nd, fun k c e => ?_, fun a ha => ?_⟩
  · obtain ⟨a, e1, q⟩ := R.cell k c e
    have ne : a ≠ p := fun z => (R.fresh n).1 (z ▸ List.mem_of_getElem? e1)
    refine ⟨a, e1, ?_⟩
    cases c with
    | vals ds => obtain ⟨xs, e2, r⟩ := q; exact ⟨xs, by rw [upd_ne ne]; exact e2, r.mv x (TExt.cons n)⟩
    | dK ds => obtain ⟨xs, e2, r⟩ := q; exact ⟨xs, by rw [upd_ne ne]; exact e2, r.1, r.2.mv x (TExt.cons n)⟩
    | dT ds => obtain ⟨xs, e2, r⟩ := q; exact ⟨xs, by rw [upd_ne ne]; exact e2, r.1, r.2.mv x (TExt.cons n)⟩
  · rcases List.mem_cons.mp ha with z | z
    · subst z
      exact ⟨by rw [upd_same]; exact (fun z => nomatch z), (R.fresh n).1⟩
    · exact R2.tl a z
theorem RelH.tless (R : RelH B (p :: T) m H h) : RelH B T m H h := by
  refine ⟨R.len, R.nd, fun k c e => ?_, fun a ha => R.tl a (List.mem_cons_of_mem _ ha)⟩
  obtain ⟨a, e1, q⟩ := R.cell k c e
  refine ⟨a, e1, ?_⟩
  cases c with
  | vals ds => obtain ⟨xs, e2, r⟩ := q; exact ⟨xs, e2, r.tless⟩
  | dK ds => obtain ⟨xs, e2, r⟩ := q; exact ⟨xs, e2, r.1, r.2.tless⟩
  | dT ds => obtain ⟨xs, e2, r⟩ := q; exact ⟨xs, e2, r.1, r.2.tless⟩
/-- behind the comprehension: a list that nobody changes -/
theorem tmp_lst {ds : List D} {xs : List V} (R : RelH B (p :: T) m H h) (hp : p ∉ T) (e : H p = some (.lst xs)) (r : Reps B (p :: T) m H ds xs) : Rep B T m H (.lst ds) (.ref p) :=
  .lst (R.tl p List.mem_cons_self).2 hp e r.tless
/-- or a mutable one -/
theorem tmp_cell {ds : List D} {xs : List V} (R : RelH B (p :: T) m H h) (hp : p ∉ T) (e : H p = some (.lst xs)) (r : Reps B (p :: T) m H ds xs) : RelH B T (m ++ [p]) H (h ++ [.vals ds]) ∧ Rep B T (m ++ [p]) H (.ref h.length) (.ref p) := by
  have hm := (R.tl p List.mem_cons_self).2
  refine ⟨⟨by simp [R.len], ?_, fun k c z => ?_, fun a ha => ⟨(R.tl a (List.mem_cons_of_mem _ ha)).1, fun z => ?_⟩⟩, .ref (by rw [← R.len]; simp)⟩
  · rw [List.nodup_append]
    exact ⟨R.nd, by simp, fun a ha b hb => by simp at hb; subst hb; exact fun z => hm (z ▸ ha)⟩
  · by_cases hk : k < h.length
    · rw [List.getElem?_append_left hk] at z
      obtain ⟨a, e1, q⟩ := R.cell k c z
      refine ⟨a, by rw [List.getElem?_append_left (List.getElem?_eq_some_iff.mp e1).1]; exact e1, ?_⟩
      cases c with
      | vals ds => obtain ⟨xs, e2, r⟩ := q; exact ⟨xs, e2, r.tcell⟩
      | dK ds => obtain ⟨xs, e2, r⟩ := q; exact ⟨xs, e2, r.1, r.2.tcell⟩
      | dT ds => obtain ⟨xs, e2, r⟩ := q; exact ⟨xs, e2, r.1, r.2.tcell⟩
    · rw [List.getElem?_append_right (by omega)] at z
      have hk2 : k = h.length := by
        have := (List.getElem?_eq_some_iff.mp z).1
        simp at this
        omega
      subst hk2
      simp at z
      subst z
      exact ⟨p, by rw [← R.len]; simp, xs, e, r.tcell⟩
  · rcases List.mem_append.mp z with z | z
    · exact (R.tl a (List.mem_cons_of_mem _ ha)).2 z
    · simp at z; subst z; exact hp ha
end

/-! ### the comprehension -/
abbrev WN : WX := fun _ _ _ _ => False
def Res.noX {α : Type} : Res α → Res α
  | .exc _ _ _ => .stuck
  | r => r
noncomputable def lcL (src : List (Nat × List D)) (g : D → En → Option En) (ft : En → AH → Res Bool) (fe : En → AH → Res D) (en : En) : List D → AH → Res (List D)
  | [], h => bif okS src h then .ok [] h else .stuck
  | d :: l, h => bif okS src h then (match g d en with
    | none => .stuck
    | some en1 => (ft en1 h).noX.bind fun b h1 => bif b then (fe en1 h1).noX.bind fun y h2 => (lcL src g ft fe en l h2).bind fun ys h3 => .ok (y :: ys) h3 else lcL src g ft fe en l h1) else .stuck
noncomputable def lcR (vs : List Nat) (fi : En → AH → Res Wk) (g : D → En → Option En) (ft : En → AH → Res Bool) (fe : En → AH → Res D) : En → AH → Res (List D) := fun en h => (fi en h).bind fun w h1 => bif decide (w.items.length < LIM) then lcL w.src g ft fe (wipeE en vs) w.items h1 else .stuck
noncomputable def lcF (vs : List Nat) (fi : En → AH → Res Wk) (g : D → En → Option En) (ft : En → AH → Res Bool) (fe : En → AH → Res D) : En → AH → Res D := fun en h => (lcR vs fi g ft fe en h).bind fun l h2 => .ok (.lst l) h2
noncomputable def lcC (vs : List Nat) (fi : En → AH → Res Wk) (g : D → En → Option En) (ft : En → AH → Res Bool) (fe : En → AH → Res D) : En → AH → Res D := fun en h => (lcR vs fi g ft fe en h).bind fun l h2 => .ok (.ref h2.length) (h2 ++ [.vals l])
/-- a clause's tests -/
def ETs (X : Cx) (B : Tab) (W : WX) (ifs : List Expr) (f : En → AH → Res Bool) : Prop := ∃ t, PTs X ifs t ∧ ∀ T m σ H en h Q, RelH B T m H h → RelE B T m H en σ → PT_ B W T m σ H Q (f en h) → t σ H Q
theorem ets_nil {X : Cx} {B : Tab} {W : WX} : ETs X B W [] (fun _ h => .ok true h) := ⟨_, pts_nil, fun T m σ H en h Q R Re p => p m true H (Ext.refl _ _) R rfl⟩
theorem ets_one {X : Cx} {B : Tab} {W : WX} {c : Expr} {f : En → AH → Res Bool} (h : ET X B W c f) : ETs X B W [c] f := by
  obtain ⟨t, p, q⟩ := h
  exact ⟨t, pts_one p, q⟩
theorem ets_rd {X : Cx} {B : Tab} {W : WX} {e : List Expr} {f : En → AH → Res Bool} (he : ETs X B W e f) : PTs X e (rd B W (fun _ => RB) f) := by
  obtain ⟨t, p, q⟩ := he
  exact ⟨fun pins s σ H Q I ⟨T, m, en, h, R, Re, z⟩ => p.run pins s σ H Q I (q T m σ H en h Q R Re z)⟩
/-- what a maker does with the list: frozen, or a cell -/
def Mk (B : Tab) (mk : List D → AH → Res D) : Prop := ∀ (W : WX) (T m1 m : List Addr) (σ : L2.St) (H1 H : Hp) (h : AH) (p : Addr) (ds : List D) (xs : List V) (Q : VK), Ext m1 H1 m H → H1 p = none → RelH B (p :: T) m H h → p ∉ T → H p = some (.lst xs) → Reps B (p :: T) m H ds xs → PE_ B W T m1 σ H1 Q (mk ds h) → Q (.ref p) H
theorem mk_lst {B : Tab} : Mk B fun l h => .ok (.lst l) h := fun W T m1 m σ H1 H h p ds xs Q x n R hp e r z => z m (.ref p) H x R.tless (tmp_lst R hp e r)
theorem mk_cell {B : Tab} : Mk B fun l h => .ok (.ref h.length) (h ++ [.vals l]) := fun W T m1 m σ H1 H h p ds xs Q x n R hp e r z => by
  obtain ⟨a, b⟩ := tmp_cell R hp e r
  obtain ⟨⟨l, el, hl⟩, k, d⟩ := x
  subst el
  exact z _ (.ref p) H ⟨⟨l ++ [p], by simp, fun a ha => by
    rcases List.mem_append.mp ha with ha | ha
    · exact hl a ha
    · simp at ha; subst ha; exact n⟩, k, d⟩ a b
/-- the reading from the mirror -/
theorem lc_read {B : Tab} {W : WX} {T m : List Addr} {σ : L2.St} {H : Hp} {en : En} {h : AH} {Q : VK} {vs us : List Nat} {fi : En → AH → Res Wk} {g : D → En → Option En} {ft : En → AH → Res Bool} {fe : En → AH → Res D} {mk : List D → AH → Res D} {wi : TI}
    (hmk : Mk B mk) (hus : ∀ i ∈ us, i ∈ vs) (qi : ∀ T m σ H en h R, RelH B T m H h → RelE B T m H en σ → Po (fun m H w J => Yields B T m H w J) B W T m σ H R (fi en h) → wi σ H R)
    (R : RelH B T m H h) (Re : RelE B T m H en σ) (p : PE_ B W T m σ H Q ((lcR vs fi g ft fe en h).bind mk)) :
    tLc wi (rdG B us g) (rd B WN (fun _ => RB) ft) (rd B WN (RD B) fe) vs σ H Q := by
  have p : PE_ B W T m σ H Q ((fi en h).bind fun w h1 => (bif decide (w.items.length < LIM) then lcL w.src g ft fe (wipeE en vs) w.items h1 else .stuck).bind mk) := by
    unfold lcR at p
    cases z : fi en h with
    | stuck => rw [z] at p; exact p
    | ok w h1 => rw [z] at p; exact p
    | exc c d h1 => rw [z] at p; exact p
  refine qi T m σ H en h _ R Re (Po.bind p fun w h1 m1 J H1 x1 R1 y p1 => ?_)
  clear p
  intro D hD
  cases hlim : decide (w.items.length < LIM) with
  | false => rw [hlim] at p1; exact p1.elim
  | true =>
  rw [hlim] at p1
  have hlim := of_decide_eq_true hlim
  have p1 : PE_ B W T m1 σ H1 Q ((lcL w.src g ft fe (wipeE en vs) w.items h1).bind mk) := p1
  have hDT : D ∉ T := (R1.fresh hD).2
  have hDm : D ∉ m1 := (R1.fresh hD).1
  -- the state of the loop
  refine ⟨fun i n H' => n = w.items.length - i ∧ i ≤ w.items.length ∧ ∃ m' h' acc accD, H' D = some (.lst acc) ∧ acc.length ≤ i ∧ Ext m1 H1 m' H' ∧ RelH B (D :: T) m' H' h' ∧ RelE B (D :: T) m' H' (wipeE en vs) (wipe σ vs) ∧ Reps B (D :: T) m' H' accD acc ∧
      PE_ B W T m1 σ H1 Q ((lcL w.src g ft fe (wipeE en vs) (w.items.drop i) h').bind fun l h2 => mk (accD ++ l) h2),
    ⟨w.items.length, by simp, Nat.zero_le _, m1, h1, [], [], upd_same, by simp, ext_new hD, R1.tnew hD, ((Re.mono x1).wipe vs).mv (ext_new hD) (TExt.cons hD), .nil, by simpa using p1⟩, ?_⟩
  rintro i n H' ⟨rfl, hi, m', h', acc, accD, eD, hacc, x', R', Re', racc, p'⟩
  by_cases hlt : i < w.items.length
  · have ed : w.items.drop i = w.items[i] :: w.items.drop (i + 1) := List.drop_eq_getElem_cons hlt
    rw [ed] at p'
    unfold lcL at p'
    cases ok : okS w.src h' with
    | false => rw [ok] at p'; exact p'.elim
    | true =>
      rw [ok] at p'
      simp only [cond_true] at p'
      obtain ⟨yg, _⟩ := y (D :: T) i m' H' h' (TExt.cons hD) x' R' ok
      obtain ⟨go, yl⟩ := yg w.items[i] (List.getElem?_eq_getElem hlt)
      refine .inr ⟨go, fun H2 => ∃ m2 h2 acc2 accD2, H2 D = some (.lst acc2) ∧ acc2.length ≤ i + 1 ∧ Ext m1 H1 m2 H2 ∧ RelH B (D :: T) m2 H2 h2 ∧ RelE B (D :: T) m2 H2 (wipeE en vs) (wipe σ vs) ∧ Reps B (D :: T) m2 H2 accD2 acc2 ∧
        PE_ B W T m1 σ H1 Q ((lcL w.src g ft fe (wipeE en vs) (w.items.drop (i + 1)) h2).bind fun l h2 => mk (accD2 ++ l) h2), fun H2 q => ⟨_, by omega, rfl, hlt, q⟩, fun xv H3 hy => ?_⟩
      obtain ⟨x3, R3, r3⟩ := yl xv H3 hy
      cases zg : g w.items[i] (wipeE en vs) with
      | none => rw [zg] at p'; exact p'.elim
      | some en1 =>
        rw [zg] at p'
        simp only at p'
        have x13 := x'.trans x3
        have e3 : H3 D = some (.lst acc) := x3.keep _ _ (R'.tl D List.mem_cons_self).2 eD
        refine ⟨D :: T, m', _, h', _, en1, R3, Re'.mono x3, r3, zg, fun σ1 Re1 of1 => ⟨?_, ?_⟩⟩
        · rw [wipe_off of1 hus, wipe_wipe]
        · refine ⟨D :: T, m', en1, h', R3, Re1, ?_⟩
          cases zt : ft en1 h' with
          | stuck => rw [zt] at p'; exact p'.elim
          | exc c d hx => rw [zt] at p'; exact p'.elim
          | ok b h4 =>
            rw [zt] at p'
            intro m4 b' H4 x4 R4 eb
            subst eb
            have e4 : H4 D = some (.lst acc) := x4.keep _ _ (R3.tl D List.mem_cons_self).2 e3
            cases b' with
            | false =>
              rw [if_neg Bool.false_ne_true]
              exact ⟨m4, h4, acc, accD, e4, Nat.le_succ_of_le hacc, x13.trans x4, R4, (Re'.mono x3).mono x4, (racc.mono x3).mono x4, p'⟩
            | true =>
              rw [if_pos rfl]
              refine ⟨D :: T, m4, en1, h4, R4, Re1.mono x4, ?_⟩
              have p' : PE_ B W T m1 σ H1 Q (((fe en1 h4).noX.bind fun y h2 => (lcL w.src g ft fe (wipeE en vs) (w.items.drop (i + 1)) h2).bind fun ys h3 => .ok (y :: ys) h3).bind fun l h2 => mk (accD ++ l) h2) := p'
              cases ze : fe en1 h4 with
              | stuck => rw [ze] at p'; exact p'.elim
              | exc c d hx => rw [ze] at p'; exact p'.elim
              | ok yd h5 =>
                rw [ze] at p'
                intro m5 yv H5 x5 R5 r5
                have e5 : H5 D = some (.lst acc) := x5.keep _ _ (R4.tl D List.mem_cons_self).2 e4
                have hm5 := (R5.tl D List.mem_cons_self).2
                have x15 : Ext m1 H1 m5 H5 := (x13.trans x4).trans x5
                refine ⟨acc, e5, ?_, m5, h5, acc ++ [yv], accD ++ [yd], upd_same, by simp; omega, ?_, R5.tset, ((((Re'.mono x3).mono x4).mono x5)).tset, ((((racc.mono x3).mono x4).mono x5).append (.cons r5 .nil)).tset, ?_⟩
                · have : LIM ≤ sizeLine := by decide
                  omega
                · exact ⟨x15.pre, fun a o ha ho => by rw [upd_ne (ne_of_none ho hD)]; exact x15.keep a o ha ho, fun a ha => by
                    unfold upd; split
                    · exact fun z => nomatch z
                    · exact x15.dom a ha⟩
                · have p' : PE_ B W T m1 σ H1 Q (((lcL w.src g ft fe (wipeE en vs) (w.items.drop (i + 1)) h5).bind fun ys h3 => .ok (yd :: ys) h3).bind fun l h2 => mk (accD ++ l) h2) := p'
                  cases zr : lcL w.src g ft fe (wipeE en vs) (w.items.drop (i + 1)) h5 with
                  | stuck => rw [zr] at p'; exact p'.elim
                  | exc c d hx => rw [zr] at p'; exact p'
                  | ok l2 h6 =>
                    rw [zr] at p'
                    have p' : PE_ B W T m1 σ H1 Q (mk (accD ++ yd :: l2) h6) := p'
                    rw [show accD ++ yd :: l2 = accD ++ [yd] ++ l2 by simp] at p'
                    exact p'
  · have e : i = w.items.length := by omega
    have ed : w.items.drop i = [] := by rw [e]; simp
    rw [ed] at p'
    unfold lcL at p'
    cases ok : okS w.src h' with
    | false => rw [ok] at p'; exact p'.elim
    | true =>
      rw [ok] at p'
      have p' : PE_ B W T m1 σ H1 Q (mk (accD ++ []) h') := p'
      rw [List.append_nil] at p'
      exact .inl ⟨(y (D :: T) i m' H' h' (TExt.cons hD) x' R' ok).2 e, hmk W T m1 m' σ H1 H' h' D accD acc Q x' hD R' hDT eD racc p'⟩
section
variable {X : Cx} {B : Tab} {W : WX} {elt tg iter : Expr} {ifs : List Expr} {scope : Scope} {own : List (Str × Nat)} {us : List Nat} {pos spos : Pos} {fi : En → AH → Res Wk} {g : D → En → Option En} {ft : En → AH → Res Bool} {fe : En → AH → Res D}
theorem ee_lc (own : List (Str × Nat)) (G : Good X B) (hi : EI X B W tg iter fi) (hg : ∀ (s : Shared) (H : Hp) (C : Addr) (cl : List (Str × Addr)) (fp : List Addr), EGn (X.blk s H scope (compEnvC scope cl C X.env) fp) B tg us g) (ht : ∀ (s : Shared) (H : Hp) (C : Addr) (cl : List (Str × Addr)) (fp : List Addr), ETs (X.blk s H scope (compEnvC scope cl C X.env) fp) B WN ifs ft)
    (he : ∀ (s : Shared) (H : Hp) (C : Addr) (cl : List (Str × Addr)) (fp : List Addr), EE (X.blk s H scope (compEnvC scope cl C X.env) fp) B WN elt fe) (ok : BlkOk X.N X.env.scope scope own) (hus : ∀ i ∈ us, i ∈ own.map (·.2) := by decide)
    (hs : ∀ x, foldedSetIterable iter X.env x = pure x := by intro _; rfl) : EE X B W (.ListComp elt [⟨tg, iter, ifs, 0⟩] scope pos) (lcF (own.map (·.2)) fi g ft fe) := by
  obtain ⟨wi, pi, qi⟩ := hi
  exact ⟨_, pe_lc G.calm G.nd pi ok (fun s H C cl fp => eg_rd (hg s H C cl fp)) (fun s H C cl fp => ets_rd (ht s H C cl fp)) (fun s H C cl fp => ee_rd (he s H C cl fp)) hs, fun T m σ H en h Q R Re p => lc_read mk_lst hus qi R Re p⟩
theorem ee_lcC (own : List (Str × Nat)) (G : Good X B) (hi : EI X B W tg iter fi) (hg : ∀ (s : Shared) (H : Hp) (C : Addr) (cl : List (Str × Addr)) (fp : List Addr), EGn (X.blk s H scope (compEnvC scope cl C X.env) fp) B tg us g) (ht : ∀ (s : Shared) (H : Hp) (C : Addr) (cl : List (Str × Addr)) (fp : List Addr), ETs (X.blk s H scope (compEnvC scope cl C X.env) fp) B WN ifs ft)
    (he : ∀ (s : Shared) (H : Hp) (C : Addr) (cl : List (Str × Addr)) (fp : List Addr), EE (X.blk s H scope (compEnvC scope cl C X.env) fp) B WN elt fe) (ok : BlkOk X.N X.env.scope scope own) (hus : ∀ i ∈ us, i ∈ own.map (·.2) := by decide)
    (hs : ∀ x, foldedSetIterable iter X.env x = pure x := by intro _; rfl) : EE X B W (.ListComp elt [⟨tg, iter, ifs, 0⟩] scope pos) (lcC (own.map (·.2)) fi g ft fe) := by
  obtain ⟨wi, pi, qi⟩ := hi
  exact ⟨_, pe_lc G.calm G.nd pi ok (fun s H C cl fp => eg_rd (hg s H C cl fp)) (fun s H C cl fp => ets_rd (ht s H C cl fp)) (fun s H C cl fp => ee_rd (he s H C cl fp)) hs, fun T m σ H en h Q R Re p => lc_read mk_cell hus qi R Re p⟩
/-- name = [..] -/
theorem ss_setLc {i : Nat} {y : Str} {py : Pos} (own : List (Str × Nat)) {mk : List D → AH → Res D} (hmk : Mk B mk) (G : Good X B) (hy : X.N[i]? = some y) (hyl : X.env.scope.names.lookup y = some .local)
    (hsw : swapsWith (.ListComp elt [⟨tg, iter, ifs, 0⟩] scope pos) (some (.Name y py)) spos.line X.env = pure true)
    (hi : EI X B W tg iter fi) (hg : ∀ (s : Shared) (H : Hp) (C : Addr) (cl : List (Str × Addr)) (fp : List Addr), EGn (X.blk s H scope (compEnvC scope cl C X.env) fp) B tg us g) (ht : ∀ (s : Shared) (H : Hp) (C : Addr) (cl : List (Str × Addr)) (fp : List Addr), ETs (X.blk s H scope (compEnvC scope cl C X.env) fp) B WN ifs ft)
    (he : ∀ (s : Shared) (H : Hp) (C : Addr) (cl : List (Str × Addr)) (fp : List Addr), EE (X.blk s H scope (compEnvC scope cl C X.env) fp) B WN elt fe) (ok : BlkOk X.N X.env.scope scope own) (hus : ∀ i ∈ us, i ∈ own.map (·.2) := by decide)
    (hs : ∀ x, foldedSetIterable iter X.env x = pure x := by intro _; rfl) : SS X B W (.Assign [.Name y py] (.ListComp elt [⟨tg, iter, ifs, 0⟩] scope pos) spos) (sSet i fun en h => (lcR (own.map (·.2)) fi g ft fe en h).bind mk) := by
  obtain ⟨wi, pi, qi⟩ := hi
  refine ⟨_, ps_setLc G.calm G.nd hy hyl hsw pi ok (fun s H C cl fp => eg_rd (hg s H C cl fp)) (fun s H C cl fp => ets_rd (ht s H C cl fp)) (fun s H C cl fp => ee_rd (he s H C cl fp)) hs, fun T m σ H en h Z R Re p => ?_⟩
  show tLc wi (rdG B us g) (rd B WN (fun _ => RB) ft) (rd B WN (RD B) fe) (own.map (·.2)) σ H _
  exact lc_read (W := W) hmk hus qi R Re (Po.bindS Re p fun d h1 m1 v H1 x1 R1 r1 p1 => p1 m1 _ H1 (Ext.refl _ _) R1 ((Re.mono x1).set i r1))
end
end Cb
/-! The Cb layer, part 11: zip, while, dicts by tuples. -/
namespace Cb
open PySem PySem.Spec PyProof.Rows L2

/-! ### zip -/
def zipd : List D → List D → List D
  | d :: l, e :: r => .tup [d, e] :: zipd l r
  | _, _ => []
theorem zipd_get : ∀ (l r : List D) (i : Nat) (p : D), (zipd l r)[i]? = some p → ∃ d e, l[i]? = some d ∧ r[i]? = some e ∧ p = .tup [d, e]
  | [], _, _, _, h => by simp [zipd] at h
  | _ :: _, [], _, _, h => by simp [zipd] at h
  | d :: l, e :: r, 0, p, h => by simp [zipd] at h; exact ⟨d, e, rfl, rfl, h.symm⟩
  | d :: l, e :: r, i + 1, p, h => by
    have h : (zipd l r)[i]? = some p := by simpa [zipd] using h
    obtain ⟨a, b, e1, e2, e3⟩ := zipd_get l r i p h
    exact ⟨a, b, by simpa using e1, by simpa using e2, e3⟩
theorem zipd_len : ∀ (l r : List D), l.length ≤ (zipd l r).length ∨ r.length ≤ (zipd l r).length
  | [], _ => .inl (Nat.zero_le _)
  | _ :: _, [] => .inr (Nat.zero_le _)
  | d :: l, e :: r => by
    rcases zipd_len l r with h | h
    · exact .inl (by show l.length + 1 ≤ (zipd l r).length + 1; omega)
    · exact .inr (by show r.length + 1 ≤ (zipd l r).length + 1; omega)
theorem okS_app {a b : List (Nat × List D)} {h : AH} : okS (a ++ b) h = (okS a h && okS b h) := by
  induction a with
  | nil => rfl
  | cons p a ih =>
    obtain ⟨k, l⟩ := p
    show (@decide _ (Classical.propDecidable (cellL h k = some l)) && okS (a ++ b) h) = _
    rw [ih, ← Bool.and_assoc]
    rfl
/-- a tuple (never a list) -/
def isTupD : D → Bool
  | .tup _ => true
  | _ => false
def wkZ (fa fb : En → AH → Res D) : En → AH → Res Wk := fun en h => (fa en h).bind fun x h1 => (fb en h1).bind fun y h2 => bif isTupD x == isTupD y then (wkL x h2).bind fun w h3 => (wkL y h3).bind fun u h4 => .ok ⟨zipd w.items u.items, w.src ++ u.src⟩ h4 else .stuck
theorem seq_tup {B : Tab} {T m : List Addr} {H : Hp} {h : AH} {d : D} {v : V} {W : WX} {σ : L2.St} {β : Type} {Rr : List Addr → Hp → Wk → β → Prop} {Q : β → Hp → Prop} (R : RelH B T m H h) (r : Rep B T m H d v) (p : Po Rr B W T m σ H Q (wkL d h)) :
    ∃ a w, v = .ref a ∧ wkL d h = .ok w h ∧ ((isTupD d = false ∧ (∃ xs, SqL B.K H a xs) ∧ ∀ T' m' H' h', TExt T H T' → Ext m H m' H' → RelH B T' m' H' h' → okS w.src h' = true → ∃ ys, SqL B.K H' a ys ∧ Reps B T' m' H' w.items ys) ∨
      (isTupD d = true ∧ (∃ xs, SqT B.K H a xs) ∧ ∀ T' m' H', TExt T H T' → Ext m H m' H' → ∃ ys, SqT B.K H' a ys ∧ Reps B T' m' H' w.items ys)) := by
  cases r with
  | @ref k a hk =>
    have p : Po Rr B W T m σ H Q (match cellL h k with
      | some l => .ok ⟨l, [(k, l)]⟩ h
      | none => .stuck) := p
    cases q : cellL h k with
    | none => rw [q] at p; exact p.elim
    | some l =>
      obtain ⟨xs, e, rs⟩ := cell_at R q hk
      refine ⟨a, ⟨l, [(k, l)]⟩, rfl, by show (match cellL h k with | some l => _ | none => _) = _; rw [q], .inl ⟨rfl, ⟨xs, SqL.of e⟩, fun T' m' H' h' t x R' o => ?_⟩⟩
      obtain ⟨ys, e2, rs2⟩ := cell_at R' (okS_one o) (x.at hk)
      exact ⟨ys, SqL.of e2, rs2⟩
  | @tup ds a xs h1 h2 hr rs => exact ⟨a, ⟨ds, []⟩, rfl, rfl, .inr ⟨rfl, ⟨xs, SqT.of hr⟩, fun T' m' H' t x => ⟨xs, SqT.of (x.keep _ _ h1 hr), rs.mv x t⟩⟩⟩
  | @lst ds a xs h1 h2 hr rs => exact ⟨a, ⟨ds, []⟩, rfl, rfl, .inl ⟨rfl, ⟨xs, SqL.of hr⟩, fun T' m' H' h' t x _ _ => ⟨xs, SqL.of (x.keep _ _ h1 hr), rs.mv x t⟩⟩⟩
  | @fix l a hf =>
    refine ⟨a, ⟨l.map D.int, []⟩, rfl, rfl, .inl ⟨rfl, ⟨l.map V.int, ?_⟩, fun T' m' H' h' t x _ _ => ⟨l.map V.int, ?_, Reps.ints l⟩⟩⟩
    · rcases hf with ⟨_, _, q⟩ | q
      · exact .inl q
      · exact .inr q
    · rcases hf with ⟨n1, _, q⟩ | q
      · exact .inl (x.rd n1 q)
      · exact .inr q
  | _ => exact p.elim
/-- a result that is not stuck, nor an exception -/
theorem po_ok {α : Type} {B : Tab} {W : WX} {T m : List Addr} {σ : L2.St} {H : Hp} {β γ δ : Type} {R2 : List Addr → Hp → γ → δ → Prop} {Q : δ → Hp → Prop} {r : Res α} {k : α → AH → Res γ} (p : Po R2 B W T m σ H Q (r.bind k)) (hx : ∀ c d h, r ≠ .exc c d h) :
    Po (fun (_ : List Addr) (_ : Hp) (_ : α) (_ : Unit) => True) B W T m σ H (fun _ _ => True) r := by
  cases r with
  | stuck => exact p.elim
  | ok a h => exact fun _ _ _ _ _ _ => trivial
  | exc c d h => exact absurd rfl (hx c d h)
theorem wkL_noexc (d : D) (h : AH) (c : Nat) (e : D) (h' : AH) : wkL d h ≠ .exc c e h' := by
  intro z
  unfold wkL at z
  repeat' split at z
  all_goals cases z
section
variable {X : Cx} {B : Tab} {W : WX} {a b : Expr} {p pos tpos : Pos} {fa fb : En → AH → Res D} {elts : List Expr} {kk : Nat}
theorem ei_zip (G : Good X B) (hm : X.mg "zip" = none) (ha : EE X B W a fa) (hb : EE X B W b fb) (hg : Gl X "zip" := by rfl)
    (hs : starEach [a, b] X.env = (false, eval a X.env) :: starEach [b] X.env := by rfl) (hs1 : starEach [b] X.env = (false, eval b X.env) :: starEach [] X.env := by rfl) (hpl : (backTo pos (starEach [b] X.env)).any (·.1) = false := by rfl) :
    EI X B W (.Tuple elts kk tpos) (.Call (.Name "zip" p) [a, b] [] pos) (wkZ fa fb) := by
  obtain ⟨ta, pa, qa⟩ := ha
  obtain ⟨tb, pb, qb⟩ := hb
  refine ⟨_, RZ.pi_zipA hg hm (pa_cons pa (pa_cons pb pa_nil hs1) hs) hs hpl, fun T m σ H en h R Rh Re p => qa T m σ H en h _ Rh Re (p.bind fun d h1 m1 v H1 x1 R1 r1 p1 => ?_)⟩
  refine qb T m1 σ H1 en h1 _ R1 (Re.mono x1) (p1.bind fun e h2 m2 w H2 x2 R2 r2 p2 => ?_)
  cases et : isTupD d == isTupD e with
  | false => rw [et] at p2; exact p2.elim
  | true =>
  rw [et] at p2
  simp only [cond_true] at p2
  have et := eq_of_beq et
  obtain ⟨ad, wd, rfl, e1, sd⟩ := seq_tup R2 (r1.mono x2) (po_ok (β := Unit) p2 (wkL_noexc d h2))
  rw [e1] at p2
  have p2 : Po (fun m H w J => Yields B T m H w J) B W T m2 σ H2 R ((wkL e h2).bind fun u h4 => .ok ⟨zipd wd.items u.items, wd.src ++ u.src⟩ h4) := p2
  obtain ⟨ae, we, rfl, e2, se⟩ := seq_tup R2 r2 (po_ok (β := Unit) p2 (wkL_noexc e h2))
  rw [e2] at p2
  have p2 : Po (fun m H w J => Yields B T m H w J) B W T m2 σ H2 R (.ok ⟨zipd wd.items we.items, wd.src ++ we.src⟩ h2) := p2
  rcases sd with ⟨td, ⟨xs, hx⟩, fd⟩ | ⟨td, ⟨xs, hx⟩, fd⟩ <;> rcases se with ⟨te, ⟨ys, hy⟩, fe⟩ | ⟨te, ⟨ys, hy⟩, fe⟩
  · rw [G.K] at hx hy
    refine ⟨ad, ae, xs, ys, rfl, .inl ⟨hx, hy, p2 m2 _ H2 (Ext.refl _ _) R2 ?_⟩⟩
    rw [← G.K]
    intro T' i m' H' h' t x R' o
    rw [okS_app] at o
    obtain ⟨o1, o2⟩ := Bool.and_eq_true_iff.mp o
    obtain ⟨xs', s1, rs1⟩ := fd T' m' H' h' t x R' o1
    obtain ⟨ys', s2, rs2⟩ := fe T' m' H' h' t x R' o2
    refine ⟨fun q hq => ?_, fun hi => ⟨xs', ys', s1, s2, ?_⟩⟩
    · obtain ⟨d1, d2, g1, g2, rfl⟩ := zipd_get _ _ _ _ hq
      obtain ⟨v1, ev1, rr1⟩ := rs1.get g1
      obtain ⟨v2, ev2, rr2⟩ := rs2.get g2
      refine ⟨⟨xs', ys', v1, v2, s1, s2, ev1, ev2⟩, fun z H3 hz => ?_⟩
      obtain ⟨q, x1, y1, rfl, n, rfl, f1, f2⟩ := hz
      have z1 := f1 _ s1
      have z2 := f2 _ s2
      rw [ev1] at z1; cases z1
      rw [ev2] at z2; cases z2
      exact ⟨ext_new n, R'.new n, rep_tup R' (.cons rr1 (.cons rr2 .nil)) n⟩
    · subst hi
      rw [← rs1.length, ← rs2.length]
      exact zipd_len _ _
  · rw [td, te] at et; cases et
  · rw [td, te] at et; cases et
  · rw [G.K] at hx hy
    refine ⟨ad, ae, xs, ys, rfl, .inr ⟨hx, hy, p2 m2 _ H2 (Ext.refl _ _) R2 ?_⟩⟩
    rw [← G.K]
    intro T' i m' H' h' t x R' o
    obtain ⟨xs', s1, rs1⟩ := fd T' m' H' t x
    obtain ⟨ys', s2, rs2⟩ := fe T' m' H' t x
    refine ⟨fun q hq => ?_, fun hi => ⟨xs', ys', s1, s2, ?_⟩⟩
    · obtain ⟨d1, d2, g1, g2, rfl⟩ := zipd_get _ _ _ _ hq
      obtain ⟨v1, ev1, rr1⟩ := rs1.get g1
      obtain ⟨v2, ev2, rr2⟩ := rs2.get g2
      refine ⟨⟨xs', ys', v1, v2, s1, s2, ev1, ev2⟩, fun z H3 hz => ?_⟩
      obtain ⟨q, x1, y1, rfl, n, rfl, f1, f2⟩ := hz
      have z1 := f1 _ s1
      have z2 := f2 _ s2
      rw [ev1] at z1; cases z1
      rw [ev2] at z2; cases z2
      exact ⟨ext_new n, R'.new n, rep_tup R' (.cons rr1 (.cons rr2 .nil)) n⟩
    · subst hi
      rw [← rs1.length, ← rs2.length]
      exact zipd_len _ _
end

/-! ### dicts by tuples: setdefault -/
def rSetdT : V → List V → Hp → VK → Prop := fun x xs H Q => ∃ (a : Addr) (kvs : List (List L2.Key × V)) (k : List L2.Key) (b : Addr) (d : V), x = .ref a ∧ xs = [.ref b, d] ∧ H a = some (.dT kvs) ∧ H b = some (.tup (k.map kV)) ∧ kvs.length < sizeLine ∧
  (∀ v, valV kvs k = some v → Q v H) ∧ (valV kvs k = none → Q d (upd H a (.dT (putK kvs k d))))
section
variable {X : Cx}
theorem mt_setdT (hu : X.A.units + 1 < cLine) : MtR X "dict.setdefault" rSetdT := by
  intro pins s σ H x xs v us Q I rx rxs h
  obtain ⟨a, kvs, k, b, d, rfl, rfl, ha, hb, hlen, q1, q2⟩ := h
  cases rx
  obtain ⟨u1, u2, rfl, r1, r2⟩ := vals2 rxs
  cases r1
  obtain ⟨z, hd, xs', rel, dd⟩ := dt_of I.hok ha
  have hz : xs'.length ≤ sizeLine := by rw [← Paired.length rel]; exact z
  refine call_setdefault_heap (hsz := hz) (tupleKind_room_in1 hu) (key_of I.hok hb) hd dd (fun p hp => ?_) (fun hn h' dd' hs => ?_)
  · have r := rel.val k
    rw [hp] at r
    obtain ⟨v0, ev, rv⟩ : ∃ v0, valV kvs k = some v0 ∧ RelV v0 p.2 := by
      cases ev : valV kvs k with
      | none =>
        rw [ev] at r
        exact (show False from r).elim
      | some v0 =>
        rw [ev] at r
        exact ⟨v0, rfl, r⟩
    exact (⟨v0, H, I.tok _, rv, q1 v0 ev⟩ : EP X pins σ Q p.2 _)
  · have r := rel.val k
    rw [hn] at r
    have e : valV kvs k = none := by
      cases ev : valV kvs k with
      | none => rfl
      | some v0 =>
        rw [ev] at r
        exact (show False from r).elim
    obtain ⟨o, es, ep, hq, h2, h3, h4, _, h5⟩ := dd'
    have hl : (putK kvs k d).length ≤ sizeLine := by have := length_putK kvs k d; omega
    have I2 : Inv X pins σ (upd H a (.dT (putK kvs k d))) { s with heap := h', toks := s.toks + (tupleKind (mixKind X.prog X.w)).draws k } :=
      d_write I (by rw [ha]; exact True.intro) hs ⟨o, hq⟩ ⟨hl, hd, _, (rel.put k hb r2).keeps (fun c ys ec => (by rw [upd_ne (ne_of ec ha (fun z => nomatch z))]; exact ec)), o, es, ep, hq, h2, h3, h4, h5⟩
    exact (⟨d, _, I2, r2, q2 e⟩ : EP X pins σ Q u2 _)
def tSetdT (td ty tx : TE) : TE := fun σ H Q => td σ H fun x H1 => ∃ a, x = .ref a ∧ IsD H1 a ∧ ty σ H1 fun y H2 => tx σ H2 fun z H3 => rSetdT (.ref a) [y, z] H3 Q
theorem pe_dsetdT {o e f : Expr} {apos cpos : Pos} {td ty tx : TE} (hu : X.A.units + 1 < cLine) (ho : PE X o td) (he : PE X e ty) (hf : PE X f tx) (m : M2 X o "setdefault" apos e f cpos) : PE X (.Call (.Attribute o "setdefault" apos) [e, f] [] cpos) (tSetdT td ty tx) := by
  refine ⟨fun pins s σ H Q I h => ?_⟩
  refine wpAny_Call_method m.base m.few m.line PySem.F.plainAttrs_dict PySem.F.slot_dict_setdefault PySem.F.type_dict_setdefault (thn (ho.run pins s σ H _ I h) fun u s1 ⟨x, H1, I1, rx, a, ex, d, q1⟩ => ?_)
  subst ex
  obtain rfl : u = Value.ref a := rx
  obtain ⟨t1, t2, _⟩ := isD_at I1 d
  refine ⟨t1, t2, ?_⟩
  rw [m.trees]
  refine Calls.callWith_builtin rfl (Calls.evalArgs_plain (Calls.spliced_cons (thn (he.run pins s1 σ H1 _ I1 q1) fun iv s2 ⟨y, H2, I2, ry, q2⟩ =>
    Calls.spliced_cons (thn (hf.run pins s2 σ H2 _ I2 q2) fun fv s3 ⟨z, H3, I3, rz, q3⟩ => Calls.spliced_nil ?_))))
  exact mt_setdT hu pins s3 σ H3 (.ref a) [y, z] (.ref a) [iv, fv] Q I3 rfl (.cons ry (.cons rz .nil)) q3
end
def intK : List D → Option (List L2.Key)
  | [] => some []
  | .int i :: l => (intK l).map fun k => .inl i :: k
  | _ => none
theorem intK_reps {B : Tab} {T m : List Addr} {H : Hp} : ∀ {ds : List D} {xs : List V} {k : List L2.Key}, Reps B T m H ds xs → intK ds = some k → xs = k.map kV
  | [], _, _, .nil, e => by cases e; rfl
  | .int i :: l, _, k, .cons (.int _) rs, e => by
    have e : (intK l).map (fun k => (Sum.inl i : L2.Key) :: k) = some k := e
    cases z : intK l with
    | none => rw [z] at e; cases e
    | some k1 =>
      rw [z] at e
      cases e
      rw [intK_reps rs z]; rfl
  | .non :: _, _, _, _, e => nomatch e
  | .bl _ :: _, _, _, _, e => nomatch e
  | .str _ :: _, _, _, _, e => nomatch e
  | .tup _ :: _, _, _, _, e => nomatch e
  | .lst _ :: _, _, _, _, e => nomatch e
  | .ref _ :: _, _, _, _, e => nomatch e
  | .obj _ _ :: _, _, _, _, e => nomatch e
  | .fix _ :: _, _, _, _, e => nomatch e
def valD {κ : Type} [DecidableEq κ] : List (κ × D) → κ → Option D
  | [], _ => none
  | p :: r, k => if p.1 = k then some p.2 else valD r k
theorem repP_val {B : Tab} {T m : List Addr} {H : Hp} {κ : Type} [DecidableEq κ] (k : κ) : ∀ {kvs : List (κ × D)} {xs : List (κ × V)}, RepP B T m H kvs xs → (∀ d, valD kvs k = some d → ∃ v, valV xs k = some v ∧ Rep B T m H d v) ∧ (valD kvs k = none → valV xs k = none)
  | [], [], _ => ⟨fun d e => (nomatch e), fun _ => rfl⟩
  | [], _ :: _, r => by simp [RepP] at r
  | _ :: _, [], r => by simp [RepP] at r
  | (k1, d1) :: kvs, (k2, v2) :: xs, ⟨e, rs⟩ => by
    have e1 : k1 = k2 := (List.cons.inj e).1
    subst e1
    have rs : Reps B T m H (d1 :: kvs.map (·.2)) (v2 :: xs.map (·.2)) := rs
    cases rs with
    | cons r rs =>
      have ih := repP_val k (kvs := kvs) (xs := xs) ⟨(List.cons.inj e).2, rs⟩
      by_cases h : k1 = k
      · refine ⟨fun d z => ⟨v2, valV_pos (p := (k1, v2)) h, ?_⟩, fun z => ?_⟩
        · have z : (if k1 = k then some d1 else valD kvs k) = some d := z
          rw [if_pos h] at z; cases z; exact r
        · have z : (if k1 = k then some d1 else valD kvs k) = none := z
          rw [if_pos h] at z; cases z
      · rw [show valV ((k1, v2) :: xs) k = valV xs k from valV_neg (p := (k1, v2)) h]
        refine ⟨fun d z => ih.1 d ?_, fun z => ih.2 ?_⟩
        · have z : (if k1 = k then some d1 else valD kvs k) = some d := z
          rw [if_neg h] at z; exact z
        · have z : (if k1 = k then some d1 else valD kvs k) = none := z
          rw [if_neg h] at z; exact z
theorem valV_put {κ : Type} [DecidableEq κ] {xs : List (κ × V)} {k : κ} {v : V} (h : valV xs k = none) : putK xs k v = xs ++ [(k, v)] := by
  unfold putK
  rw [valV_any, h]
  rfl
theorem RepP.snoc {B : Tab} {T m : List Addr} {H : Hp} {κ : Type} {kvs : List (κ × D)} {xs : List (κ × V)} {k : κ} {d : D} {v : V} (r : RepP B T m H kvs xs) (q : Rep B T m H d v) : RepP B T m H (kvs ++ [(k, d)]) (xs ++ [(k, v)]) := by
  refine ⟨by simp [r.1], ?_⟩
  rw [List.map_append, List.map_append]
  exact r.2.append (.cons q .nil)
/-- d.setdefault(k, x) over a dict by tuples of ints -/
def dSetT (fo fe ff : En → AH → Res D) : En → AH → Res D := fun en h => (fo en h).bind fun o h1 => match o with
  | .ref k => (match h1[k]? with
    | some (.dT _) => (fe en h1).bind fun e h2 => (ff en h2).bind fun x h3 => (match e, h3[k]? with
      | .tup l, some (.dT kvs) => (match intK l with
        | some key => bif decide (kvs.length < LIM) then (match valD kvs key with
          | some d => .ok d h3
          | none => .ok x (h3.set k (.dT (kvs ++ [(key, x)])))) else .stuck
        | none => .stuck)
      | _, _ => .stuck)
    | _ => .stuck)
  | _ => .stuck
theorem ee_setdT {X : Cx} {B : Tab} {W : WX} {o e f : Expr} {apos cpos : Pos} {fo fe ff : En → AH → Res D} (G : Good X B) (ho : EE X B W o fo) (he : EE X B W e fe) (hf : EE X B W f ff) (m : M2 X o "setdefault" apos e f cpos := by exact ⟨rfl, rfl, rfl, rfl⟩) : EE X B W (.Call (.Attribute o "setdefault" apos) [e, f] [] cpos) (dSetT fo fe ff) := by
  obtain ⟨to, po, qo⟩ := ho
  obtain ⟨te, pe, qe⟩ := he
  obtain ⟨tf, pf, qf⟩ := hf
  refine ⟨_, pe_dsetdT (by have := G.un; omega) po pe pf m, fun T m σ H en h Q R Re p => qo T m σ H en h _ R Re (p.bind fun d h1 m1 v H1 x1 R1 r1 p1 => ?_)⟩
  cases r1 with
  | @ref k a hk =>
    try simp only at p1
    cases q : h1[k]? with
    | none => rw [q] at p1; exact p1.elim
    | some c =>
      rw [q] at p1
      cases c with
      | vals _ => exact p1.elim
      | dK _ => exact p1.elim
      | dT kvs0 =>
        try simp only at p1
        obtain ⟨a', ea, xs0, hx0, _⟩ := R1.cell k _ q
        rw [hk] at ea; cases ea
        refine ⟨a, rfl, .inr ⟨xs0, .inl hx0⟩, qe T m1 σ H1 en h1 _ R1 (Re.mono x1) (p1.bind fun e2 h2 m2 v2 H2 x2 R2 r2 p2 => ?_)⟩
        refine qf T m2 σ H2 en h2 _ R2 ((Re.mono x1).mono x2) (p2.bind fun d3 h3 m3 v3 H3 x3 R3 r3 p3 => ?_)
        have hk3 : m3[k]? = some a := x3.at (x2.at hk)
        cases e2 with
        | tup l =>
          try simp only at p3
          cases q3 : h3[k]? with
          | none => rw [q3] at p3; exact p3.elim
          | some c3 =>
            rw [q3] at p3
            cases c3 with
            | vals _ => exact p3.elim
            | dK _ => exact p3.elim
            | dT kvs =>
              try simp only at p3
              cases qk : intK l with
              | none => rw [qk] at p3; exact p3.elim
              | some key =>
                rw [qk] at p3
                try simp only at p3
                cases ql : decide (kvs.length < LIM) with
                | false => rw [ql] at p3; exact p3.elim
                | true =>
                  rw [ql] at p3
                  simp only [cond_true] at p3
                  have ql := of_decide_eq_true ql
                  obtain ⟨a', ea, xs, hx, rx⟩ := R3.cell k _ q3
                  rw [hk3] at ea; cases ea
                  have r2' := r2.mono x3
                  cases r2' with
                  | @tup _ b ys g1 g2 hb rs =>
                    have ek := intK_reps rs qk
                    subst ek
                    have hlen : xs.length = kvs.length := by
                      have := congrArg List.length rx.1
                      simpa using this.symm
                    obtain ⟨w1, w2⟩ := repP_val key rx
                    refine ⟨a, xs, key, b, v3, rfl, rfl, hx, hb, ?_, fun v hv => ?_, fun hv => ?_⟩
                    · have : LIM ≤ sizeLine := by decide
                      omega
                    · cases z : valD kvs key with
                      | none => rw [w2 z] at hv; cases hv
                      | some d =>
                        rw [z] at p3
                        obtain ⟨v', ev, rv⟩ := w1 d z
                        rw [ev] at hv; cases hv
                        exact p3 m3 _ H3 (Ext.refl _ _) R3 rv
                    · cases z : valD kvs key with
                      | some d =>
                        obtain ⟨v', ev, rv⟩ := w1 d z
                        rw [ev] at hv; cases hv
                      | none =>
                        rw [z] at p3
                        rw [valV_put hv]
                        have xx : Ext m3 H3 m3 (upd H3 a (.dT (xs ++ [(key, v3)]))) := ext_set R3 hk3
                        exact p3 m3 _ _ xx (R3.set hk3 ⟨_, upd_same, (rx.mono xx).snoc (r3.mono xx)⟩) (r3.mono xx)
        | _ => exact p3.elim
  | _ => exact p1.elim
def mkDT : En → AH → Res D := fun _ h => .ok (.ref h.length) (h ++ [.dT []])
theorem ee_dnewT {X : Cx} {B : Tab} {W : WX} {pos : Pos} : EE X B W (.Dict [] [] pos) mkDT := by
  refine ⟨_, pe_dnewT, fun T m σ H en h Q R Re p => fun a n => ?_⟩
  exact p _ _ _ (ext_cell n) (R.cellNew n ⟨[], upd_same, rfl, .nil⟩) (.ref (by rw [← R.len]; simp))
end Cb
/-! The Cb layer, part 12: defs: what they promise, their end, their calls. -/
namespace Cb
open PySem PySem.Spec PyProof.Rows L2

/-! ### refs below a number -/
mutual
def below (n : Nat) : D → Bool
  | .ref k => decide (k < n)
  | .tup l => belows n l
  | .lst l => belows n l
  | .obj _ l => belows n l
  | _ => true
def belows (n : Nat) : List D → Bool
  | [] => true
  | d :: l => below n d && belows n l
end
def belowC (n : Nat) : Cell → Bool
  | .vals l => belows n l
  | .dK l => belows n (l.map (·.2))
  | .dT l => belows n (l.map (·.2))
section
variable {B : Tab} {T m m' : List Addr} {H H' : Hp} {h h' : AH}
mutual
theorem Rep.blw : ∀ {d : D} {v : V}, Rep B T m H d v → Cb.below m.length d = true
  | _, _, .non => rfl
  | _, _, .bl _ => rfl
  | _, _, .int _ => rfl
  | _, _, .str _ => rfl
  | _, _, .tup _ _ _ rs => Reps.blw rs
  | _, _, .lst _ _ _ rs => Reps.blw rs
  | _, _, .fix _ => rfl
  | _, _, .ref h => decide_eq_true (List.getElem?_eq_some_iff.mp h).1
  | _, _, .obj _ _ _ _ _ _ _ rs => Reps.blw rs
theorem Reps.blw : ∀ {ds : List D} {vs : List V}, Reps B T m H ds vs → belows m.length ds = true
  | _, _, .nil => rfl
  | _, _, .cons r rs => Bool.and_eq_true_iff.mpr ⟨Rep.blw r, Reps.blw rs⟩
end
mutual
/-- fewer places, the first n of them the same -/
theorem Rep.fewer (n : Nat) (hs : ∀ a ∈ m', a ∈ m) (hp : ∀ k, k < n → m'[k]? = m[k]?) : ∀ {d : D} {v : V}, Rep B T m H d v → Cb.below n d = true → Rep B T m' H d v
  | _, _, .non, _ => .non
  | _, _, .bl b, _ => .bl b
  | _, _, .int i, _ => .int i
  | _, _, .str s, _ => .str s
  | _, _, .tup h1 h2 r rs, b => .tup (fun z => h1 (hs _ z)) h2 r (Reps.fewer n hs hp rs b)
  | _, _, .lst h1 h2 r rs, b => .lst (fun z => h1 (hs _ z)) h2 r (Reps.fewer n hs hp rs b)
  | _, _, .fix h, _ => .fix (by
      rcases h with ⟨h1, h2, r⟩ | h
      · exact .inl ⟨fun z => h1 (hs _ z), h2, r⟩
      · exact .inr h)
  | _, _, .ref h, b => .ref (by rw [hp _ (of_decide_eq_true b)]; exact h)
  | _, _, .obj h1 h2 h3 h4 h5 r1 r2 rs, b => .obj (fun z => h1 (hs _ z)) h2 (fun z => h3 (hs _ z)) h4 h5 r1 r2 (Reps.fewer n hs hp rs b)
theorem Reps.fewer (n : Nat) (hs : ∀ a ∈ m', a ∈ m) (hp : ∀ k, k < n → m'[k]? = m[k]?) : ∀ {ds : List D} {vs : List V}, Reps B T m H ds vs → belows n ds = true → Reps B T m' H ds vs
  | _, _, .nil, _ => .nil
  | _, _, .cons r rs, b => .cons (Rep.fewer n hs hp r (Bool.and_eq_true_iff.mp b).1) (Reps.fewer n hs hp rs (Bool.and_eq_true_iff.mp b).2)
end

/-! ### the end of a def: its own mutable things go, or are kept by name -/
def posOf (k : Nat) : List Nat → Option Nat
  | [] => none
  | j :: l => if j = k then some 0 else (posOf k l).map (· + 1)
theorem posOf_some {k : Nat} : ∀ {l : List Nat} {i : Nat}, posOf k l = some i → l[i]? = some k
  | [], _, h => nomatch h
  | j :: l, i, h => by
    unfold posOf at h
    by_cases e : j = k
    · rw [if_pos e] at h; cases h; rw [e]; rfl
    · rw [if_neg e] at h
      cases z : posOf k l with
      | none => rw [z] at h; cases h
      | some i' =>
        rw [z] at h; cases h
        have := posOf_some z
        simpa using this
theorem posOf_none {k : Nat} : ∀ {l : List Nat}, posOf k l = none → k ∉ l
  | [], _ => by simp
  | j :: l, h => by
    unfold posOf at h
    by_cases e : j = k
    · rw [if_pos e] at h; cases h
    · rw [if_neg e] at h
      cases z : posOf k l with
      | none => exact fun q => by rcases List.mem_cons.mp q with q | q; exact e q.symm; exact posOf_none z q
      | some i' => rw [z] at h; cases h
def mapO {α β : Type} (g : α → Option β) : List α → Option (List β)
  | [] => some []
  | d :: l => (g d).bind fun a => (mapO g l).map fun r => a :: r
/-- mutable things at n or above become what they hold, but for those in ks, which get the numbers n, n + 1, .. -/
def frz : Nat → AH → Nat → List Nat → D → Option D
  | 0, _, n, _, d => if Cb.below n d = true then some d else none
  | f + 1, h, n, ks, d => if Cb.below n d = true then some d else (match d with
    | .ref k => (match posOf k ks with
      | some i => some (.ref (n + i))
      | none => (match h[k]? with
        | some (.vals l) => (mapO (frz f h n ks) l).map D.lst
        | _ => none))
    | .tup l => (mapO (frz f h n ks) l).map D.tup
    | .lst l => (mapO (frz f h n ks) l).map D.lst
    | .obj c l => (mapO (frz f h n ks) l).map (D.obj c)
    | _ => none)
theorem mapO_reps {g : D → Option D} (hg : ∀ d v e, Rep B T m H d v → g d = some e → Rep B T m' H e v) : ∀ {ds es : List D} {vs : List V}, Reps B T m H ds vs → mapO g ds = some es → Reps B T m' H es vs
  | [], es, _, .nil, e => by cases e; exact .nil
  | d :: ds, es, _, .cons r rs, e => by
    unfold mapO at e
    cases z : g d with
    | none => rw [z] at e; cases e
    | some a =>
      rw [z] at e
      have e : (mapO g ds).map (fun r => a :: r) = some es := e
      cases z2 : mapO g ds with
      | none => rw [z2] at e; cases e
      | some l =>
        rw [z2] at e; cases e
        exact .cons (hg _ _ _ r z) (mapO_reps hg rs z2)
/-- the places that stay -/
def sub (m : List Addr) (n : Nat) (ks : List Nat) : List Addr := m.take n ++ ks.map fun k => m.getD k 0
theorem sub_low {n : Nat} {ks : List Nat} (hn : n ≤ m.length) : ∀ k, k < n → (sub m n ks)[k]? = m[k]? := fun k hk => by
  unfold sub
  rw [List.getElem?_append_left (by rw [List.length_take]; omega), List.getElem?_take_of_lt hk]
theorem sub_high {n : Nat} {ks : List Nat} (hn : n ≤ m.length) {i k : Nat} (e : ks[i]? = some k) (hk : k < m.length) : (sub m n ks)[n + i]? = m[k]? := by
  unfold sub
  rw [List.getElem?_append_right (by rw [List.length_take]; omega), List.length_take, show n + i - min n m.length = i by omega, List.getElem?_map, e]
  simp [List.getD, hk]
theorem sub_mem {n : Nat} {ks : List Nat} (hk : ∀ k ∈ ks, k < m.length) : ∀ a ∈ sub m n ks, a ∈ m := fun a ha => by
  unfold sub at ha
  rcases List.mem_append.mp ha with ha | ha
  · exact List.mem_of_mem_take ha
  · obtain ⟨k, hk1, e⟩ := List.mem_map.mp ha
    have := hk k hk1
    rw [← e]
    simp [List.getD, this]
theorem sub_out {n : Nat} {ks : List Nat} (nd : m.Nodup) (hk : ∀ k ∈ ks, k < m.length) {k : Nat} {a : Addr} (e : m[k]? = some a) (h1 : ¬ k < n) (h2 : k ∉ ks) : a ∉ sub m n ks := fun ha => by
  obtain ⟨hl, e'⟩ := List.getElem?_eq_some_iff.mp e
  unfold sub at ha
  rcases List.mem_append.mp ha with ha | ha
  · obtain ⟨j, hj, ej⟩ := List.mem_iff_getElem.mp ha
    rw [List.length_take] at hj
    rw [List.getElem_take] at ej
    have := (List.getElem_inj nd).mp (ej.trans e'.symm)
    omega
  · obtain ⟨j, hj1, ej⟩ := List.mem_map.mp ha
    have hj := hk j hj1
    have ej : m[j] = a := by simpa [List.getD, hj] using ej
    have := (List.getElem_inj nd).mp (ej.trans e'.symm)
    exact h2 (this ▸ hj1)
theorem frz_rep {n : Nat} {ks : List Nat} (R : RelH B T m H h) (hn : n ≤ m.length) (hk : ∀ k ∈ ks, k < m.length) : ∀ (f : Nat) (d : D) (v : V) (e : D), Rep B T m H d v → frz f h n ks d = some e → Rep B T (sub m n ks) H e v
  | 0, d, v, e, r, q => by
    unfold frz at q
    by_cases b : Cb.below n d = true
    · rw [if_pos b] at q; cases q
      exact r.fewer n (sub_mem hk) (sub_low hn) b
    · rw [if_neg b] at q; cases q
  | f + 1, d, v, e, r, q => by
    unfold frz at q
    by_cases b : Cb.below n d = true
    · rw [if_pos b] at q; cases q
      exact r.fewer n (sub_mem hk) (sub_low hn) b
    · rw [if_neg b] at q
      have ih := frz_rep R hn hk f
      cases r with
      | @ref k a hka =>
        have q : (match posOf k ks with
          | some i => some (.ref (n + i))
          | none => (match h[k]? with
            | some (.vals l) => (mapO (frz f h n ks) l).map D.lst
            | _ => none)) = some e := q
        cases z : posOf k ks with
        | some i =>
          rw [z] at q; cases q
          exact .ref (by rw [sub_high hn (posOf_some z) (List.getElem?_eq_some_iff.mp hka).1]; exact hka)
        | none =>
          rw [z] at q
          have q : (match h[k]? with
            | some (.vals l) => (mapO (frz f h n ks) l).map D.lst
            | _ => none) = some e := q
          cases zc : h[k]? with
          | none => rw [zc] at q; cases q
          | some c =>
            rw [zc] at q
            cases c with
            | vals l =>
              have q : (mapO (frz f h n ks) l).map D.lst = some e := q
              cases zl : mapO (frz f h n ks) l with
              | none => rw [zl] at q; cases q
              | some l' =>
                rw [zl] at q; cases q
                obtain ⟨a', ea, xs, hx, rs⟩ := R.cell k _ zc
                rw [hka] at ea; cases ea
                refine .lst (sub_out R.nd hk hka (fun z' => b (decide_eq_true z')) (posOf_none z)) (fun z' => (R.tl a z').2 (List.mem_of_getElem? hka)) hx (mapO_reps (fun d v e r => ih d v e r) rs zl)
            | dK _ => cases q
            | dT _ => cases q
      | @tup ds a xs h1 h2 hr rs =>
        have q : (mapO (frz f h n ks) ds).map D.tup = some e := q
        cases zl : mapO (frz f h n ks) ds with
        | none => rw [zl] at q; cases q
        | some l' =>
          rw [zl] at q; cases q
          exact .tup (fun z => h1 (sub_mem hk _ z)) h2 hr (mapO_reps (fun d v e r => ih d v e r) rs zl)
      | @lst ds a xs h1 h2 hr rs =>
        have q : (mapO (frz f h n ks) ds).map D.lst = some e := q
        cases zl : mapO (frz f h n ks) ds with
        | none => rw [zl] at q; cases q
        | some l' =>
          rw [zl] at q; cases q
          exact .lst (fun z => h1 (sub_mem hk _ z)) h2 hr (mapO_reps (fun d v e r => ih d v e r) rs zl)
      | @obj c ds a dx xs h1 h2 h3 h4 h5 r1 r2 rs =>
        have q : (mapO (frz f h n ks) ds).map (D.obj c) = some e := q
        cases zl : mapO (frz f h n ks) ds with
        | none => rw [zl] at q; cases q
        | some l' =>
          rw [zl] at q; cases q
          exact .obj (fun z => h1 (sub_mem hk _ z)) h2 (fun z => h3 (sub_mem hk _ z)) h4 h5 r1 r2 (mapO_reps (fun d v e r => ih d v e r) rs zl)
      | _ => exact absurd rfl b
/-- the old things: as they were, or without anything new in them -/
def gcOk (h0 h' : AH) : Prop := h0.length ≤ h'.length ∧ ∀ i c, i < h0.length → h'[i]? = some c → h0[i]? = some c ∨ belowC h0.length c = true
/-- the kept ones -/
def keptC (h : AH) (n : Nat) (ks : List Nat) (k : Nat) : Option Cell := match h[k]? with
  | some (.vals l) => (mapO (frz 6 h n ks) l).map Cell.vals
  | _ => none
theorem mapO_get {α β : Type} {g : α → Option β} : ∀ {l : List α} {r : List β} {i : Nat} {b : β}, mapO g l = some r → r[i]? = some b → ∃ a, l[i]? = some a ∧ g a = some b
  | [], r, i, b, e, h => by cases e; simp at h
  | d :: l, r, i, b, e, h => by
    unfold mapO at e
    cases z : g d with
    | none => rw [z] at e; cases e
    | some a =>
      rw [z] at e
      have e : (mapO g l).map (fun r => a :: r) = some r := e
      cases z2 : mapO g l with
      | none => rw [z2] at e; cases e
      | some l2 =>
        rw [z2] at e; cases e
        cases i with
        | zero => simp at h; subst h; exact ⟨d, rfl, z⟩
        | succ i =>
          obtain ⟨a', e1, e2⟩ := mapO_get (i := i) z2 (by simpa using h)
          exact ⟨a', by simpa using e1, e2⟩
theorem mapO_length {α β : Type} {g : α → Option β} : ∀ {l : List α} {r : List β}, mapO g l = some r → r.length = l.length
  | [], r, e => by cases e; rfl
  | d :: l, r, e => by
    unfold mapO at e
    cases z : g d with
    | none => rw [z] at e; cases e
    | some a =>
      rw [z] at e
      have e : (mapO g l).map (fun r => a :: r) = some r := e
      cases z2 : mapO g l with
      | none => rw [z2] at e; cases e
      | some l2 => rw [z2] at e; cases e; simp [mapO_length z2]
theorem sub_nodup {n : Nat} {ks : List Nat} (nd : m.Nodup) (hn : n ≤ m.length) (hk : ∀ k ∈ ks, n ≤ k ∧ k < m.length) (kn : ks.Nodup) : (sub m n ks).Nodup := by
  unfold sub
  rw [List.nodup_append]
  refine ⟨nd.sublist (List.take_sublist _ _), ?_, fun a ha b hb e => ?_⟩
  · rw [List.nodup_iff_pairwise_ne, List.pairwise_map]
    refine (List.nodup_iff_pairwise_ne.mp kn).imp_of_mem fun {a b} ha hb hab => ?_
    have h1 := (hk a ha).2
    have h2 := (hk b hb).2
    simp only [List.getD, List.getElem?_eq_getElem h1, List.getElem?_eq_getElem h2, Option.getD_some]
    exact fun e => hab ((List.getElem_inj nd).mp e)
  · subst e
    obtain ⟨j, hj, ej⟩ := List.mem_iff_getElem.mp ha
    rw [List.length_take] at hj
    rw [List.getElem_take] at ej
    obtain ⟨k, hk1, ek⟩ := List.mem_map.mp hb
    obtain ⟨h1, h2⟩ := hk k hk1
    simp only [List.getD, List.getElem?_eq_getElem h2, Option.getD_some] at ek
    have := (List.getElem_inj nd).mp (ej.trans ek.symm)
    omega
/-- behind the def -/
theorem gc_rel {h0 : AH} {ks : List Nat} {cs : List Cell} {m' : List Addr} (R0 : RelH B T m H h0) (x : Ext m H m' H') (R : RelH B T m' H' h') (g : gcOk h0 h') (hk : ∀ k ∈ ks, h0.length ≤ k ∧ k < h'.length) (kn : ks.Nodup) (hc : mapO (keptC h' h0.length ks) ks = some cs) :
    Ext m H (sub m' h0.length ks) H' ∧ RelH B T (sub m' h0.length ks) H' (h'.take h0.length ++ cs) := by
  obtain ⟨⟨l, el, hl⟩, xk, xd⟩ := x
  have ml : m'.length = h'.length := R.len
  have hn : h0.length ≤ m'.length := by rw [ml]; exact g.1
  have hk' : ∀ k ∈ ks, k < m'.length := fun k z => by rw [ml]; exact (hk k z).2
  have et : m'.take h0.length = m := by rw [el, ← R0.len, List.take_left']; rfl
  refine ⟨⟨⟨ks.map fun k => m'.getD k 0, by unfold sub; rw [et], fun a ha => ?_⟩, xk, xd⟩, ?_, ?_, ?_, ?_⟩
  · obtain ⟨k, hk1, e⟩ := List.mem_map.mp ha
    obtain ⟨h1, h2⟩ := hk k hk1
    have h3 : k < m'.length := by rw [ml]; exact h2
    have e2 : m'[k] = a := by simpa [List.getD, h3] using e
    have e3 : m'[k]? = some a := by rw [List.getElem?_eq_getElem h3, e2]
    rw [el, List.getElem?_append_right (by rw [R0.len]; exact h1)] at e3
    exact hl a (List.mem_of_getElem? e3)
  · unfold sub
    rw [List.length_append, List.length_append, List.length_take, List.length_take, List.length_map, mapO_length hc, ml]
  · exact sub_nodup R.nd hn (fun k z => ⟨(hk k z).1, hk' k z⟩) kn
  · intro k c e
    by_cases hlt : k < h0.length
    · rw [List.getElem?_append_left (by rw [List.length_take]; have := g.1; omega), List.getElem?_take_of_lt hlt] at e
      obtain ⟨a, e1, q⟩ := R.cell k c e
      refine ⟨a, by rw [sub_low hn k hlt]; exact e1, ?_⟩
      have b : belowC h0.length c = true := by
        rcases g.2 k c hlt e with e0 | b
        · obtain ⟨a0, _, q0⟩ := R0.cell k c e0
          rw [← R0.len]
          cases c <;> (obtain ⟨xs, _, r⟩ := q0; first | exact r.blw | exact r.2.blw)
        · exact b
      cases c with
      | vals ds => obtain ⟨xs, e2, r⟩ := q; exact ⟨xs, e2, r.fewer _ (sub_mem hk') (sub_low hn) b⟩
      | dK ds => obtain ⟨xs, e2, r⟩ := q; exact ⟨xs, e2, r.1, r.2.fewer _ (sub_mem hk') (sub_low hn) b⟩
      | dT ds => obtain ⟨xs, e2, r⟩ := q; exact ⟨xs, e2, r.1, r.2.fewer _ (sub_mem hk') (sub_low hn) b⟩
    · rw [List.getElem?_append_right (by rw [List.length_take]; omega), List.length_take, show k - min h0.length h'.length = k - h0.length by have := g.1; omega] at e
      obtain ⟨j, ej, hj⟩ := mapO_get hc e
      have hjm := List.mem_of_getElem? ej
      unfold keptC at hj
      cases zc : h'[j]? with
      | none => rw [zc] at hj; cases hj
      | some cc =>
        rw [zc] at hj
        cases cc with
        | vals ds =>
          have hj : (mapO (frz 6 h' h0.length ks) ds).map Cell.vals = some c := hj
          cases zl : mapO (frz 6 h' h0.length ks) ds with
          | none => rw [zl] at hj; cases hj
          | some l2 =>
            rw [zl] at hj; cases hj
            obtain ⟨a, e1, xs, hx, rs⟩ := R.cell j _ zc
            refine ⟨a, ?_, xs, hx, mapO_reps (fun d v e r => frz_rep R hn hk' 6 d v e r) rs zl⟩
            have := sub_high hn ej (hk' j hjm)
            rw [show h0.length + (k - h0.length) = k by omega] at this
            rw [this]; exact e1
        | dK _ => cases hj
        | dT _ => cases hj
  · exact fun a ha => ⟨(R.tl a ha).1, fun z => (R.tl a ha).2 (sub_mem hk' a z)⟩
end
/-- how a def's result is handed on: which of its own mutable things stay mutable -/
abbrev Sel := Nat → AH → D → List Nat
def sel0 : Sel := fun _ _ _ => []
/-- the list itself -/
def sel1 : Sel := fun n _ d => match d with
  | .ref k => if n ≤ k then [k] else []
  | _ => []
def newRefs (n : Nat) : List D → List Nat
  | .ref k :: l => if n ≤ k then k :: newRefs n l else newRefs n l
  | _ :: l => newRefs n l
  | [] => []
/-- the list and its rows -/
def sel2 : Sel := fun n h d => match d with
  | .ref k => if n ≤ k then k :: (match h[k]? with
    | some (.vals l) => newRefs n l
    | _ => []) else []
  | .lst l => newRefs n l
  | .tup l => newRefs n l
  | _ => []
open Classical in
noncomputable def gcR (sl : Sel) (h0 : AH) : Res D → Res D
  | .ok d h' => if gcOk h0 h' ∧ (∀ k ∈ sl h0.length h' d, h0.length ≤ k ∧ k < h'.length) ∧ (sl h0.length h' d).Nodup then
      (match frz 6 h' h0.length (sl h0.length h' d) d, mapO (keptC h' h0.length (sl h0.length h' d)) (sl h0.length h' d) with
      | some d', some cs => .ok d' (h'.take h0.length ++ cs)
      | _, _ => .stuck) else .stuck
  | .exc c d h' => if gcOk h0 h' ∧ below h0.length d = true then .exc c d (h'.take h0.length) else .stuck
  | .stuck => .stuck
open Classical in
theorem gc_ok {B : Tab} {W : WX} {T m : List Addr} {σ : L2.St} {H : Hp} {h0 : AH} {Q : VK} {sl : Sel} {r : Res D} (R0 : RelH B T m H h0) (p : PE_ B W T m σ H Q (gcR sl h0 r)) : PE_ B W T m σ H Q r := by
  cases r with
  | stuck => exact p
  | ok d h' =>
    intro m' v H' x R rv
    have p : PE_ B W T m σ H Q (if gcOk h0 h' ∧ (∀ k ∈ sl h0.length h' d, h0.length ≤ k ∧ k < h'.length) ∧ (sl h0.length h' d).Nodup then
      (match frz 6 h' h0.length (sl h0.length h' d) d, mapO (keptC h' h0.length (sl h0.length h' d)) (sl h0.length h' d) with
      | some d', some cs => .ok d' (h'.take h0.length ++ cs)
      | _, _ => .stuck) else .stuck) := p
    by_cases g : gcOk h0 h' ∧ (∀ k ∈ sl h0.length h' d, h0.length ≤ k ∧ k < h'.length) ∧ (sl h0.length h' d).Nodup
    · rw [if_pos g] at p
      obtain ⟨g1, g2, g3⟩ := g
      have hn : h0.length ≤ m'.length := by rw [R.len]; exact g1.1
      cases e1 : frz 6 h' h0.length (sl h0.length h' d) d with
      | none => rw [e1] at p; exact p.elim
      | some d' =>
        cases e2 : mapO (keptC h' h0.length (sl h0.length h' d)) (sl h0.length h' d) with
        | none => rw [e1, e2] at p; exact p.elim
        | some cs =>
          rw [e1, e2] at p
          obtain ⟨x2, R2⟩ := gc_rel R0 x R g1 g2 g3 e2
          exact p _ v H' x2 R2 (frz_rep R hn (fun k z => by rw [R.len]; exact (g2 k z).2) 6 d v d' rv e1)
    · rw [if_neg g] at p; exact p.elim
  | exc c d h' =>
    intro m' y H' x R ⟨hks, v, ey, rv⟩
    have p : PE_ B W T m σ H Q (if gcOk h0 h' ∧ below h0.length d = true then .exc c d (h'.take h0.length) else .stuck) := p
    by_cases g : gcOk h0 h' ∧ below h0.length d = true
    · rw [if_pos g] at p
      obtain ⟨g1, g2⟩ := g
      have hn : h0.length ≤ m'.length := by rw [R.len]; exact g1.1
      obtain ⟨x2, R2⟩ := gc_rel (ks := []) (cs := []) R0 x R g1 (fun _ z => absurd z List.not_mem_nil) List.nodup_nil rfl
      rw [List.append_nil] at R2
      exact p _ y H' x2 R2 ⟨hks, v, ey, rv.fewer _ (sub_mem fun _ z => absurd z List.not_mem_nil) (sub_low hn) g2⟩
    · rw [if_neg g] at p; exact p.elim
def startE (n : Nat) (ds : List D) : En := ds.map some ++ List.replicate (n - ds.length) none
def toR : RS → Res D
  | .nx _ h => .ok .non h
  | .ret d h => .ok d h
  | .exc c d _ h => .exc c d h
  | _ => .stuck
/-- a def: n slots, its body -/
noncomputable def fnm (sl : Sel) (n : Nat) (fb : En → AH → RS) : List D → AH → Res D := fun ds h => gcR sl h (toR (fb (startE n ds) h))
/-- what it promises -/
def spD (B : Tab) (n : Nat) (f : List D → AH → Res D) : Sp := fun vs H Q E => vs.length = n ∧ ∃ T m h ds, RelH B T m H h ∧ Reps B T m H ds vs ∧ PE_ B (fun cls d _ H => E cls d H) T m [] H Q (f ds h)
theorem relE_start {B : Tab} {T m : List Addr} {H : Hp} {ds : List D} {vs : List V} {N : List Str} (r : Reps B T m H ds vs) : RelE B T m H (startE N.length ds) (L2.start N vs) := by
  have hl := r.length
  refine ⟨by unfold startE L2.start; simp [hl], fun i d e => ?_⟩
  unfold startE at e
  unfold L2.start
  by_cases hi : i < ds.length
  · rw [List.getElem?_append_left (by simpa using hi), List.getElem?_map] at e
    cases z : ds[i]? with
    | none => rw [z] at e; cases e
    | some d0 =>
      rw [z] at e; cases e
      obtain ⟨v, ev, rv⟩ := r.get z
      exact ⟨v, by rw [List.getElem?_append_left (by simpa using hl ▸ hi), List.getElem?_map, ev]; rfl, rv⟩
  · rw [List.getElem?_append_right (by simpa using hi), List.getElem?_replicate] at e
    split at e <;> cases e
section
variable {P : Program} {w : World} {K : PySem.W.Frag} {mg : Str → Option Value} {base : Heap} {x qual : Str} {params : Arguments} {body : List Stmt} {scope : Scope} {dvs : List V} {kws : List (Str × V)} {f : Addr} {fd : FuncData} {B : Tab}
theorem fn_ok {CX : CXT} {N ps : List Str} {k : Nat} {fb : En → AH → RS} (sl : Sel) (F : FunD K x qual params body scope dvs kws f fd) (S : FnScope N ps scope)
    (hbody : ∀ (cdv : Value) (A : Around) (outer : List Env) (s : Shared) (H : Hp) (E : XK), Room k (A.deeper (envOfC qual scope s.heap.objs.size f cdv)) → SSs (cxOf CX P w K mg base N qual scope f cdv A outer s H E) B (fun cls d _ H => E cls d H) body fb) :
    FnOk P w K mg base CX (k + 1) f fd ps (spD B ps.length (fnm sl N.length fb)) := by
  refine F.ok S (fun vs H Q E h => h.1) fun cdv A outer s H vs Q E hr h => ?_
  obtain ⟨_, T, m, h0, ds, R, rs, p⟩ := h
  obtain ⟨t, pt, q⟩ := hbody cdv A outer s H E hr
  refine ⟨t, pt, q T m (L2.start N vs) H (startE N.length ds) h0 _ R (relE_start rs) ?_⟩
  have p2 := gc_ok R (show PE_ B (fun cls d _ H => E cls d H) T m [] H Q (gcR sl h0 (toR (fb (startE N.length ds) h0))) from p)
  cases z : fb (startE N.length ds) h0 with
  | stuck => rw [z] at p2; exact p2
  | nx en' h' => rw [z] at p2; exact fun m' σ' H' x' R' _ => p2 m' .non H' x' R' .non
  | ret d h' => rw [z] at p2; exact p2
  | brk en' h' => rw [z] at p2; exact p2.elim
  | cont en' h' => rw [z] at p2; exact p2.elim
  | exc c d en' h' => rw [z] at p2; exact fun m' y σ' H' x' R' _ e' => p2 m' y H' x' R' e'
end

/-! ### calls -/
/-- a constant among the defaults -/
def cv : D → V
  | .bl b => .bl b
  | .int i => .int i
  | .str s => .str s
  | _ => .non
def isC : D → Bool
  | .non => true
  | .bl _ => true
  | .int _ => true
  | .str _ => true
  | _ => false
theorem cv_rep {B : Tab} {T m : List Addr} {H : Hp} : ∀ {dds : List D}, dds.all isC = true → Reps B T m H dds (dds.map cv)
  | [], _ => .nil
  | d :: l, h => by
    obtain ⟨h1, h2⟩ := Bool.and_eq_true_iff.mp (show (isC d && l.all isC) = true from h)
    refine .cons ?_ (cv_rep h2)
    cases d with
    | non => exact .non
    | bl b => exact .bl b
    | int i => exact .int i
    | str s => exact .str s
    | _ => cases h1
/-- an exception of a callee whose context is None is one of any kind -/
theorem cx_of {P : Program} {w : World} {outer : List Env} {H : Hp} {s : Shared} {E : XK} {u : Value} {s' : Shared} (c : L2N.CX P w outer H s E u s') : L2.CX P w outer H s E u s' := by
  obtain ⟨a, B, H', cls, d, e, fl, hok, ub, na, os, ag, hE⟩ := c
  exact ⟨a, B, H', cls, d, e, L2H.flyingZ_imp (fun o z => z.zc) fl, hok, ub, na, os, ag, hE⟩
theorem passNX {X : Cx} {W : WX} (tk : L2.Takes X W) (σ : L2.St) : PassesAt (L2N.CX X.prog X.w) X σ (WE W σ) := fun pins H s e s' I c => passAt tk σ pins H s e s' I (cx_of c)
/-- within a comprehension's block nothing may be raised -/
theorem passB {X : Cx} (σ : L2.St) : PassesAt (L2.CX X.prog X.w) X σ (WE WN σ) := passAt takes_none5 σ
theorem passBN {X : Cx} (σ : L2.St) : PassesAt (L2N.CX X.prog X.w) X σ (WE WN σ) := passNX takes_none5 σ
def cal (dds : List D) (n : Nat) (fn : List D → AH → Res D) (fas : En → AH → Res (List D)) : En → AH → Res D := fun en h => (fas en h).bind fun ds h1 => bif ds.length + dds.length == n then fn (ds ++ dds) h1 else .stuck
section
variable {X : Cx} {B : Tab} {W : WX} {CX : CXT} {k n : Nat} {f : Addr} {fd : FuncData} {ps : List Str} {fn : List D → AH → Res D} {x : Str} {p pos : Pos} {e : Expr} {es : List Expr} {fas : En → AH → Res (List D)} {ds : List Value}
theorem cal_run {T m : List Addr} {σ : L2.St} {H : Hp} {h : AH} {Q : VK} {ds dds : List D} {vs : List V} (R : RelH B T m H h) (rs : Reps B T m H ds vs) (hc : dds.all isC = true) (p : PE_ B W T m σ H Q (bif ds.length + dds.length == n then fn (ds ++ dds) h else .stuck)) : spD B n fn (vs ++ dds.map cv) H Q (WE W σ) := by
  cases q : ds.length + dds.length == n with
  | false => rw [q] at p; exact p.elim
  | true =>
    rw [q] at p
    have q := eq_of_beq q
    refine ⟨by rw [List.length_append, ← rs.length, List.length_map]; exact q, T, m, h, ds ++ dds, R, rs.append (cv_rep hc), ?_⟩
    have p : PE_ B W T m σ H Q (fn (ds ++ dds) h) := p
    cases z : fn (ds ++ dds) h with
    | stuck => rw [z] at p; exact p
    | ok d h' => rw [z] at p; exact p
    | exc c d h' => rw [z] at p; exact p
theorem ee_call (dds : List D) (F : FnOk X.prog X.w X.K X.mg X.base CX k f fd ps (spD B n fn)) (hr : Room k X.A) (hm : X.mg x = some (.ref f)) (hk : PySem.W.keepIn X.K (.ref f) = true) (hb : ∃ dv, Vals (dds.map cv) dv ∧ Binds X.K fd ps dv)
    (hx : ∀ σ, PassesAt CX X σ (WE W σ)) (ha : EA X B W (e :: es) fas) (hc : dds.all isC = true := by rfl) (hg : Gl X x := by rfl)
    (hdb : (x == ("__debug__" : Str)) = false := by decide) (he : starEach (e :: es) X.env = (false, eval e X.env) :: starEach es X.env := by rfl) (hpl : (backTo pos (starEach es X.env)).any (·.1) = false := by rfl) :
    EE X B W (.Call (.Name x p) (e :: es) [] pos) (cal dds n fn fas) := by
  obtain ⟨ta, pa, qa⟩ := ha
  obtain ⟨dv, hv, hb⟩ := hb
  exact ⟨_, pe_callSD F hr hg hm hk hb hv hx pa hdb he hpl, fun T m σ H en h Q R Re p => qa T m σ H en h _ R Re (Po.bind p fun d h1 m1 v H1 x1 R1 r1 p1 => cal_run R1 r1 hc p1)⟩
/-- f(e, .., k = v, ..): g puts the values in the parameters' order -/
def calK (n : Nat) (g : List D → List D → List D) (fn : List D → AH → Res D) (fas fks : En → AH → Res (List D)) : En → AH → Res D := fun en h => (fas en h).bind fun ds h1 => (fks en h1).bind fun ks h2 => bif (g ds ks).length == n then fn (g ds ks) h2 else .stuck
def EK (X : Cx) (B : Tab) (W : WX) (kws : List Keyword) (f : En → AH → Res (List D)) : Prop :=
  ∃ t, PK X kws t ∧ ∀ T m σ H en h Q, RelH B T m H h → RelE B T m H en σ → PA_ B W T m σ H Q (f en h) → t σ H Q
theorem ek_nil : EK X B W [] (fun _ h => .ok [] h) := ⟨_, pk_nil, fun T m σ H en h Q R Re p => p m [] H (Ext.refl _ _) R .nil⟩
theorem ek_cons {nm : Option Str} {kpos : Pos} {kws : List Keyword} {fe : En → AH → Res D} (he : EE X B W e fe) (hr : EK X B W kws fas) : EK X B W (⟨nm, e, kpos⟩ :: kws) (acons fe fas) := by
  obtain ⟨te, pe, qe⟩ := he
  obtain ⟨tk, pk, qk⟩ := hr
  refine ⟨_, pk_cons pe pk, fun T m σ H en h Q R Re p => qe T m σ H en h _ R Re (Po.bind (show PA_ B W T m σ H Q ((fe en h).bind _) from p) fun d h1 m1 v H1 x1 R1 r1 p1 => ?_)⟩
  refine qk T m1 σ H1 en h1 _ R1 (Re.mono x1) (Po.bind p1 fun ds h2 m2 vs H2 x2 R2 r2 p2 => ?_)
  exact p2 m2 _ H2 (Ext.refl _ _) R2 (.cons (r1.mono x2) r2)
/-- how keywords bind -/
structure KBd (K : PySem.W.Frag) (fd : FuncData) (ps ks : List Str) (np : Nat) (gD : List D → List D → List D) : Prop where
  ex : ∃ (g : List Value → List Value → List Value) (gV : List V → List V → List V), KBn K fd ps np ks g gV ∧
    ∀ (B : Tab) T m H ds vs zs us, Reps B T m H ds vs → Reps B T m H zs us → Reps B T m H (gD ds zs) (gV vs us)
theorem run_fnNS {pins : List (Addr × Obj)} {σ : L2.St} {H : Hp} {s : Shared} {Q : VK} {us ws : List Value} {vs zs : List V} {ks : List Str} {np : Nat} {sp : Sp} {E : L2.St → XK} {g : List Value → List Value → List Value} {gV : List V → List V → List V} (F : FnOk X.prog X.w X.K X.mg X.base CX k f fd ps sp) (hr : Room k X.A) (hb : KBn X.K fd ps np ks g gV) (hx : PassesAt CX X σ (E σ))
    (I : Inv X pins σ H s) (r : Vals vs us) (rz : Vals zs ws) (l1 : vs.length = np) (l2 : zs.length = ks.length) (h : sp (gV vs zs) H Q (E σ)) : wpAny (model X.prog X.w) X.A (call (.ref f) us (ks.zip ws)) (EP X pins σ Q) X.xe s := by
  have r2 := hb.rel r rz
  refine wpAny_call (codeAny_mono (F.run X.A X.stack s H ⟨us, ks.zip ws⟩ (g us ws) (gV vs zs) Q (E σ) hr I.env0 (hb.to s us ws I.kIn (r.length.symm.trans l1) (rz.length.symm.trans l2)) r2 h) fun r s' hq => ?_)
  cases r with
  | error e => exact hx pins H s e s' I hq
  | ok fl =>
    cases fl with
    | ret u => exact I.after hq
    | next => exact False.elim hq
    | brk => exact False.elim hq
    | cont => exact False.elim hq
theorem pe_callNS {kws : List Keyword} {t tk : TA} {ks : List Str} {np : Nat} {sp : Sp} {E : L2.St → XK} {g : List Value → List Value → List Value} {gV : List V → List V → List V} (F : FnOk X.prog X.w X.K X.mg X.base CX k f fd ps sp) (hr : Room k X.A) (hg : Gl X x) (hm : X.mg x = some (.ref f)) (hk : PySem.W.keepIn X.K (.ref f) = true) (hb : KBn X.K fd ps np ks g gV) (hx : ∀ σ, PassesAt CX X σ (E σ))
    (ha : PA X (e :: es) t) (hkw : PK X kws tk) (hall : (backToKw pos (keywordEach kws X.env)).all (·.1.isSome) = true := by rfl) (hks : (backToKw pos (keywordEach kws X.env)).filterMap (·.1) = ks := by rfl)
    (hdb : (x == ("__debug__" : Str)) = false := by decide) (he : starEach (e :: es) X.env = (false, eval e X.env) :: starEach es X.env := by rfl)
    (hpl : ((backTo pos (starEach (e :: es) X.env)).any (·.1) || (backToKw pos (keywordEach kws X.env)).any (·.1.isNone)) = false := by rfl) :
    PE X (.Call (.Name x p) (e :: es) kws pos) (fun σ H Q => t σ H fun vs H1 => tk σ H1 fun zs H2 => vs.length = np ∧ zs.length = ks.length ∧ sp (gV vs zs) H2 Q (E σ)) := by
  refine ⟨fun pins s σ H Q I h => ?_⟩
  refine wpAny_Call_Name_kw (ld_glob I hg hm ?_ hdb)
  refine PySem.W.callWith_KW (h₀ := X.base) I.ok.mod.kin hk hall (thn (ha.run pos pins s σ H _ I h) fun us s1 ⟨vs, H1, I1, r, q⟩ => ?_) hpl he
  refine thn (hkw.run pos pins s1 σ H1 _ I1 q) fun ws s2 ⟨zs, H2, I2, rz, l1, l2, q2⟩ => ⟨I2.kIn, ?_⟩
  rw [hks]
  exact run_fnNS F hr hb (hx σ) I2 r rz l1 l2 q2
theorem ee_callK {kws : List Keyword} {ks : List Str} {np : Nat} {gD : List D → List D → List D} {fks : En → AH → Res (List D)} (F : FnOk X.prog X.w X.K X.mg X.base CX k f fd ps (spD B n fn)) (hr : Room k X.A) (hm : X.mg x = some (.ref f)) (hk : PySem.W.keepIn X.K (.ref f) = true) (hb : KBd X.K fd ps ks np gD)
    (hx : ∀ σ, PassesAt CX X σ (WE W σ)) (ha : EA X B W (e :: es) fas) (hkw : EK X B W kws fks) (hg : Gl X x := by rfl) (hall : (backToKw pos (keywordEach kws X.env)).all (·.1.isSome) = true := by rfl) (hks : (backToKw pos (keywordEach kws X.env)).filterMap (·.1) = ks := by rfl)
    (hdb : (x == ("__debug__" : Str)) = false := by decide) (he : starEach (e :: es) X.env = (false, eval e X.env) :: starEach es X.env := by rfl)
    (hpl : ((backTo pos (starEach (e :: es) X.env)).any (·.1) || (backToKw pos (keywordEach kws X.env)).any (·.1.isNone)) = false := by rfl) :
    EE X B W (.Call (.Name x p) (e :: es) kws pos) (fun en h => (fas en h).bind fun ds h1 => (fks en h1).bind fun zs h2 => bif (ds.length == np && zs.length == ks.length) && ((gD ds zs).length == n) then fn (gD ds zs) h2 else .stuck) := by
  obtain ⟨ta, pa, qa⟩ := ha
  obtain ⟨tk, pk, qk⟩ := hkw
  obtain ⟨g, gV, hb, hrel⟩ := hb
  refine ⟨_, pe_callNS F hr hg hm hk hb hx pa pk hall hks hdb he hpl, fun T m σ H en h Q R Re p => qa T m σ H en h _ R Re (Po.bind p fun d h1 m1 v H1 x1 R1 r1 p1 => ?_)⟩
  refine qk T m1 σ H1 en h1 _ R1 (Re.mono x1) (Po.bind p1 fun z h2 m2 u H2 x2 R2 r2 p2 => ?_)
  cases q : (d.length == np && z.length == ks.length) && ((gD d z).length == n) with
  | false => rw [q] at p2; exact p2.elim
  | true =>
    rw [q] at p2
    obtain ⟨q1, q3⟩ := Bool.and_eq_true_iff.mp q
    obtain ⟨q1, q2⟩ := Bool.and_eq_true_iff.mp q1
    have rr := hrel B T m2 H2 d v z u (r1.mono x2) r2
    refine ⟨by rw [← r1.length]; exact eq_of_beq q1, by rw [← r2.length]; exact eq_of_beq q2, by rw [← rr.length]; exact eq_of_beq q3, T, m2, h2, _, R2, rr, ?_⟩
    have p2 : PE_ B W T m2 σ H2 Q (fn (gD d z) h2) := p2
    cases zz : fn (gD d z) h2 with
    | stuck => rw [zz] at p2; exact p2
    | ok d h' => rw [zz] at p2; exact p2
    | exc c d h' => rw [zz] at p2; exact p2
end
end Cb
/-! The Cb layer, part 13: errors of the program's own classes: made, raised, caught. -/
namespace Cb
open PySem PySem.Spec PyProof.Rows L2

/-! ### several clauses, each with a name -/
abbrev Hd := Value × Nat × (Addr → Value → Option Addr → TS)
def endsAs (i : Nat) (D : Ends) : Ends := { nx := fun σ H => D.nx (σ.set i none) H, rt := D.rt, bk := fun σ H => D.bk (σ.set i none) H, ct := fun σ H => D.ct (σ.set i none) H }
def wAll (K : PySem.W.Frag) (Wout : WX) (D : Ends) : List Hd → WX
  | [] => Wout
  | (c, i, ts) :: r => fun cls d σ H => ∃ b, PySem.W.exmOne K cls c = some b ∧ (b = true → ∀ a, H a = none → ts a cls d (endsAs i D) (σ.set i (some (.ref a))) H) ∧ (b = false → wAll K Wout D r cls d σ H)
inductive HdsAs (X : Cx) : List ExceptHandler → List Hd → Prop
  | nil : HdsAs X [] []
  | cons {x n : Str} {c : Value} {i : Nat} {ts : Addr → Value → Option Addr → TS} {b₀ : Stmt} {suite : List Stmt} {np pos' : Pos} {hds : List ExceptHandler} {l : List Hd} (hi : X.N[i]? = some n) (hln : X.env.kindOf n = some .local) (hc : Names X x c)
      (hsu : ∀ (a : Addr) (oe : Obj) (cls : Value) (d : Option Addr) (pn : List (Addr × Obj)), Zc cls d oe → (∃ vs, oe.data = .fields vs) → PSs (X.suite a ((a, oe) :: pn)) (b₀ :: suite) (ts a cls d)) (r : HdsAs X hds l) :
      HdsAs X (.ExceptHandler (some (.Name x np)) (some n) (b₀ :: suite) pos' :: hds) ((c, i, ts) :: l)
section
variable {X : Cx}
/-- an error that has come down to the clauses -/
structure Down (X : Cx) (pins : List (Addr × Obj)) (σ : L2.St) (H : Hp) (cls : Value) (d : Option Addr) (a : Addr) (s : Shared) : Prop where
  ok : X.Ok
  no : H a = none
  fly : ∃ (B : Heap) (sI : Shared), Inv X pins σ H sI ∧ (∀ b o, sI.heap.get? b = some o → b ∉ frs X.stack → B.get? b = some o) ∧ sI.heap.UpToSlots s.heap ∧ HandSPX.FlyingZ B (X.env :: X.outer) a (Zc cls d) s.heap ∧ s.os = sI.os ∧ AllBare s.gens
section
variable {pins : List (Addr × Obj)} {σ : L2.St} {H : Hp} {cls : Value} {d : Option Addr} {a : Addr} {s : Shared}
theorem Down.inv (z : Down X pins σ H cls d a s) : Inv X pins σ H s := by
  obtain ⟨B, sI, J, nb, up, fl, os, ag⟩ := z.fly
  exact J.landed nb fl.1 up os ag
theorem Down.at_ (z : Down X pins σ H cls d a s) : ∃ oe vs, s.heap.get? a = some oe ∧ Zc cls d oe ∧ oe.data = .fields vs := by
  obtain ⟨B, sI, J, nb, up, fl, os, ag⟩ := z.fly
  obtain ⟨oe, vs, h1, h2, h3⟩ := fl.there
  exact ⟨oe, vs, h1, h2, h3⟩
theorem Down.apart (hf : X.env.frame = some X.env.locals) (z : Down X pins σ H cls d a s) : a ≠ X.env.locals ∧ a ∉ X.fs := by
  obtain ⟨B, sI, J, nb, up, fl, os, ag⟩ := z.fly
  obtain ⟨oe, vs, h1, h2, h3⟩ := fl.there
  have nfr : a ∉ frs (X.env :: X.outer) := fun hm => by
    obtain ⟨_, o', e', hnf⟩ := fl.2.2.1.mem hm
    rw [h1] at e'; cases e'
    exact hnf _ h3
  refine ⟨fun q => nfr (List.mem_filterMap.mpr ⟨X.env, List.mem_cons_self, by rw [hf, q]⟩), fun hm => ?_⟩
  obtain ⟨e, he, q⟩ := List.mem_filterMap.mp hm
  exact nfr (List.mem_filterMap.mpr ⟨e, List.mem_cons_of_mem _ he, q⟩)
/-- no clause names it: it flies on -/
theorem Down.on {Wout : WX} {D : Ends} (hs : X.stack = X.env :: X.outer) (hf : X.env.frame = some X.env.locals) (tk : L2.Takes X Wout) (z : Down X pins σ H cls d a s) (w : Wout cls d σ H) : wpAny (model X.prog X.w) X.A (handleBy (.ref a) X.env []) (SP X pins D) X.xe s := by
  obtain ⟨B, sI, J, nb, up, fl, os, ag⟩ := z.fly
  refine wpAny_handleBy_nil ?_
  have fl' := fl
  obtain ⟨k1, k2, k3, oe, vs, T, oT, ts', he, hz, hd, h1, hr⟩ := fl'
  unfold PySem.passOn
  refine wpAny_bind (wpAny_field he hd h1 ?_)
  have nn : ¬ ((Value.ref T == Value.none) = true) := by simp
  rw [if_neg nn]
  have last : wpAny (model X.prog X.w) X.A (setFlight (.ref a) X.env.frame) (fun _ s4 => wpAny (model X.prog X.w) X.A (throw (.ref a) : Sem Flow) (SP X pins D) X.xe s4) X.xe s := by
    rw [hf]
    exact HandSPX.setFlight_upZ fl fun h4 hh4 up4 => wpAny_throw (tk _ _ ⟨a, B, sI, pins, σ, H, cls, d, rfl, J, nb, up.trans up4, .inr (.inr (by rw [hs]; exact hh4)), z.no, os, ag, w⟩)
  first
    | exact wpAny_bind (wpAny_pure (wpAny_bind last))
    | exact wpAny_bind last
/-- one clause after the other -/
theorem Down.run {Wout : WX} {D : Ends} (hs : X.stack = X.env :: X.outer) (hf : X.env.frame = some X.env.locals) (hN : X.N.Nodup) (tk : L2.Takes X Wout) (z : Down X pins σ H cls d a s) : ∀ {hds : List ExceptHandler} {l : List Hd}, HdsAs X hds l → wAll X.K Wout D l cls d σ H →
    wpAny (model X.prog X.w) X.A (handleBy (.ref a) X.env hds) (SP X pins D) X.xe s
  | _, _, .nil, w => z.on hs hf tk w
  | _, _, @HdsAs.cons _ x n c i ts b₀ suite np pos' hds l hi hln hc hsu r, w => by
    obtain ⟨b, hb, hyes, hno⟩ := w
    obtain ⟨oe, vs, he, hz, hd⟩ := z.at_
    obtain ⟨nL, nF⟩ := z.apart hf
    have I := z.inv
    have SI := I.suite he hd z.no nL nF
    refine wpAny_handleBy_cons (codeAny_handlers_test ?_) (by intro q; cases q)
    have tyE : PySem.W.Looks (model X.prog X.w) s.heap (typeOf (.ref a)) cls := fun A Q E s k q => wpAny_typeOf_ref (k _ _ he) (by rw [hz.1]; exact q)
    have ans := PySem.W.exm_one (M := model X.prog X.w) I.kIn tyE hb
    have named : ∀ {Q : Value → Shared → Prop} {E : Value → Shared → Prop}, Q c s → wpAny (model X.prog X.w) (X.A.mark (some (.ref a))) (eval (.Name x np) X.env) Q E s := fun {Q E} q => by
      obtain ⟨hg, hdbg, hm | ⟨hm, hv, hnn⟩⟩ := hc
      · exact ld_glob (X := X.suite a ((a, oe) :: (X.pn ++ pins))) SI hg hm q hdbg
      · exact ld_blt (X := X.suite a ((a, oe) :: (X.pn ++ pins))) SI hg hm hv q hnn hdbg
    refine named (ans.here ?_)
    cases b with
    | false => exact Down.run hs hf hN tk z r (hno rfl)
    | true =>
      refine codeAny_handlers_suite_as ?_
      obtain ⟨B, sI, J, nb, up, fl, os, ag⟩ := z.fly
      refine HandSPX.lands_againZ fl fun h4 fl4 up4 => ?_
      have z4 : Down X pins σ H cls d a { s with heap := h4 } := ⟨z.ok, z.no, B, sI, J, nb, up.trans up4, fl4, os, ag⟩
      obtain ⟨oe4, vs4, he4, hz4, hd4⟩ := z4.at_
      have S4 := z4.inv.suite he4 hd4 z.no nL nF
      refine store_ok (X := X.suite a ((a, oe4) :: (X.pn ++ pins))) (v := .ref a) S4 hN hi (.inl hln) rfl (fun s5 S5 => ?_) (.inr hln)
      refine wpAny_mono ((hsu a oe4 cls d (X.pn ++ pins) hz4 ⟨_, hd4⟩).run [] s5 _ H _ S5 (hyes rfl a z.no)) (fun f s6 hsp => ?_) (fun _ _ q => False.elim q)
      have gone : ∀ {σ6 : L2.St} {H6 : Hp} {Q : Shared → Prop}, Inv (X.suite a ((a, oe4) :: (X.pn ++ pins))) [] σ6 H6 s6 → (∀ s7, Inv X pins (σ6.set i none) H6 s7 → Q s7) →
          wpAny (model X.prog X.w) X.A (do bindName X.env n .none; unbindBehindTheSuite X.env n pos') (fun _ s7 => Q s7) X.xe s6 := fun {σ6 H6 Q} S6 hq => gone_ok (S6.unsuite z.ok) hN hi hln hq
      cases f with
      | next =>
        obtain ⟨σ6, H6, S6, q6⟩ := hsp
        exact gone S6 fun s7 J7 => ⟨_, _, J7, q6⟩
      | brk =>
        obtain ⟨σ6, H6, S6, q6⟩ := hsp
        exact gone S6 fun s7 J7 => ⟨_, _, J7, q6⟩
      | cont =>
        obtain ⟨σ6, H6, S6, q6⟩ := hsp
        exact gone S6 fun s7 J7 => ⟨_, _, J7, q6⟩
      | ret u =>
        obtain ⟨v6, σ6, H6, S6, r6, q6⟩ := hsp
        exact gone S6 fun s7 J7 => ⟨_, _, _, J7, r6, q6⟩
end
theorem ps_try_all {body : List Stmt} {h₀ : ExceptHandler} {hds : List ExceptHandler} {l : List Hd} {pos : Pos} {tb : WX → TS} {Wout : WX} (hs : X.stack = X.env :: X.outer) (hf : X.env.frame = some X.env.locals) (hN : X.N.Nodup) (tk : L2.Takes X Wout)
    (hb : ∀ (W : WX) (pn : List (Addr × Obj)) (xe : Value → Shared → Prop), L2.Takes (X.tr pn xe) W → PassesOwn (model X.prog X.w) X.A X.env xe → PSs (X.tr pn xe) body (tb W))
    (hh : HdsAs X (h₀ :: hds) l) : PS X (.Try body (h₀ :: hds) [] [] pos) (fun D σ H => tb (wAll X.K Wout D l) D σ H) := by
  refine ⟨fun pins s σ H D I h => wpAny_Try_except ?_⟩
  have ok := I.ok
  have hfr : X.A.frames = some (X.env :: X.outer) := by rw [ok.frames, hs]
  refine wpAny_mono ((hb (wAll X.K Wout D l) (X.pn ++ pins) (fun e s₁ => wpAny (model X.prog X.w) X.A (noteFrame e X.env) (fun _ s₂ => wpAny (model X.prog X.w) X.A (setFlight e none) (fun _ s₃ =>
    wpAny (model X.prog X.w) X.A (handleBy e X.env (h₀ :: hds)) (SP X pins D) X.xe s₃) X.xe s₂) X.xe s₁) (fun u s' xx => ?_) PassesOwn.looking).run [] s σ H D (I.toTry _) h) (fun f s1 hsp => ?_) (fun e s1 he => he)
  · obtain ⟨a, B, sI, pins', σ', H', cls, d, rfl, J', nb, up, sky, na, os, ag, w⟩ := xx
    have J : Inv X pins σ' H' sI := J'.ofTry ok
    have sky' : Sky B (X.env :: X.outer) a (Zc cls d) X.env.locals s'.heap := by rw [← hs]; exact sky
    show wpAny (model X.prog X.w) X.A (noteFrame (.ref a) X.env) _ _ _
    refine L2.Sky.land Zc.steady hfr hf sky' fun h3 fl3 up3 => ?_
    exact Down.run hs hf hN tk (s := { s' with heap := h3 }) ⟨ok, na, B, sI, J, nb, up.trans up3, fl3, os, ag⟩ hh w
  · cases f with
    | next =>
      obtain ⟨σ', H', J', q⟩ := hsp
      exact wpAny_execs_nil ⟨σ', H', J'.ofTry ok, q⟩
    | brk =>
      obtain ⟨σ', H', J', q⟩ := hsp
      exact ⟨σ', H', J'.ofTry ok, q⟩
    | cont =>
      obtain ⟨σ', H', J', q⟩ := hsp
      exact ⟨σ', H', J'.ofTry ok, q⟩
    | ret u =>
      obtain ⟨v, σ', H', J', r, q⟩ := hsp
      exact ⟨v, σ', H', J'.ofTry ok, r, q⟩
end

/-! ### isinstance of the caught one -/
theorem call_isErr {X : Cx} {a D dd : Addr} {oe : Obj} {pn : List (Addr × Obj)} {fs : List (Str × V)} (C : ExcC X.K D) (hz : Zc (.ref D) (some dd) oe) (hf : ∃ vs, oe.data = .fields vs) :
    CallR (X.suite a ((a, oe) :: pn)) (.builtin "isinstance") (fun xs H Q => ∃ (c : V) (cv : Value) (b : Bool), xs = [.ref a, c] ∧ (∀ u, RelV c u → u = cv) ∧ PySem.W.kitOne X.K (.ref D) cv = some b ∧ H dd = some (.xd fs) ∧ Q (.bl b) H) := by
  intro pins s σ H xs us Q I r h
  obtain ⟨c, cv, b, rfl, hcv, e, ed, q⟩ := h
  obtain ⟨u1, u2, rfl, r1, r2⟩ := vals2 r
  obtain rfl : u1 = Value.ref a := r1
  obtain rfl := hcv _ r2
  obtain ⟨hget, _⟩ := I.pin (a, oe) (List.mem_append_left _ List.mem_cons_self)
  obtain ⟨vs, hv⟩ := hf
  have hx : ObjOk X.prog X.w H s.heap dd (.xd fs) := I.hok dd _ ed
  obtain ⟨mA, hns, _⟩ := hx
  obtain ⟨od, ho, _⟩ := lookIn_ns hns
  have J : PySem.W.InstAt s.heap a oe D (some od) := ⟨hget, hz.1, by unfold PySem.W.notCls; rw [hv] <;> rfl, by rw [hz.2]; exact ho⟩
  have hcl : (PySem.W.clsIn X.K D).isSome = true := by
    obtain ⟨cd, hc, _⟩ := PySem.W.any_some C.hd
    rw [hc]; rfl
  exact PySem.W.kia_one (PySem.W.kitx_exc hcl C.hg C.hk C.hs C.ha C.hn C.ht C.hm) I.kIn J e (fun z => nomatch z) fun tk => ⟨.bl b, H, I.kept (t' := tk) fun _ _ z => z, rfl, q⟩
end Cb
/-! The Cb layer, part 14: raise, try. -/
namespace Cb
open PySem PySem.Spec PyProof.Rows L2

/-! ### an own error class with def __init__(self, f): self.f = f -/
def spInit (C : Addr) (f : Str) : Sp := fun vs H Q _ => ∃ (a : Addr) (v : V), vs = [.ref a, v] ∧ H a = some (exo a C none) ∧ ∀ dx, H dx = none → dx ≠ a → Q .non (upd (upd H dx (exd dx [(f, v)])) a (exo a C (some dx)))
structure ErrC (P : Program) (w : World) (K : PySem.W.Frag) (mg : Str → Option Value) (base : Heap) (B : Tab) (c : Nat) (x : Str) : Prop where
  g : mg x = some (.ref (B.err c))
  k : c ∈ B.ks
  oex : OexC K (B.err c)
  ini : ∃ (fI : Addr) (fd : FuncData) (ps : List Str), PySem.W.findIn K (.ref (B.err c)) "__init__" = some (some (.ref fI)) ∧ PySem.W.typeIn K (.ref fI) = some (.type "function") ∧ Binds K fd ps [] ∧
    (∀ CX, FnOk P w K mg base CX 1 fI fd ps (spInit (B.err c) (B.fld c))) ∧ ∀ CX, L2H.FnH P w K mg base CX 1 fI fd ps (spInit (B.err c) (B.fld c))
  no : PySem.W.findIn K (.ref (B.err c)) (B.fld c) = some none
  xf : XfC K (B.err c)
  exc : ExcC K (B.err c)
section
variable {P : Program} {w : World} {K : PySem.W.Frag} {mg : Str → Option Value} {base : Heap} {x qual : Str} {params : Arguments} {body : List Stmt} {scope : Scope} {fI C : Addr} {fd : FuncData} {f : Str} {N ps : List Str}
theorem init_read {H : Hp} {Q : VK} {E : XK} {vs : List V} (T : OexC K C) (hno : PySem.W.findIn K (.ref C) f = some none) (hN : N.length = 2) (h : spInit C f vs H Q E) : tOst K f (tVar 0) (tVar 1) { nx := fun _ H' => Q .non H', rt := Q } (L2.start N vs) H := by
  obtain ⟨a, v, rfl, ha, q⟩ := h
  refine ⟨v, ?_, .ref a, ?_, a, C, rfl, T, hno, .inl ⟨ha, q⟩⟩
  · unfold L2.start; rfl
  · unfold L2.start; rfl
theorem init_ok (F : FunD K x qual params body scope [] [] fI fd) (S : FnScope N ps scope) (T : OexC K C) (hno : PySem.W.findIn K (.ref C) f = some none) (hN : N.length = 2) (hp : ps.length = 2)
    (hb : ∀ (CX : CXT) (cdv : Value) (A : Around) (outer : List Env) (s : Shared) (H : Hp) (E : XK), PSs (cxOf CX P w K mg base N qual scope fI cdv A outer s H E) body (tOst K f (tVar 0) (tVar 1))) (CX : CXT) : FnOk P w K mg base CX 1 fI fd ps (spInit C f) := by
  refine F.ok S (fun vs H Q E h => ?_) fun cdv A outer s H vs Q E hr h => ⟨_, hb CX cdv A outer s H E, init_read T hno hN h⟩
  obtain ⟨a, v, rfl, _⟩ := h
  exact hp.symm
theorem init_okH (F : FunD K x qual params body scope [] [] fI fd) (S : FnScope N ps scope) (T : OexC K C) (hno : PySem.W.findIn K (.ref C) f = some none) (hN : N.length = 2) (hp : ps.length = 2)
    (hb : ∀ (CX : CXT) (cdv : Value) (A : Around) (outer : List Env) (s : Shared) (H : Hp) (E : XK) (p : Addr × Obj), PSs (L2H.cxH CX P w K mg base N qual scope fI cdv A outer s H E p) body (tOst K f (tVar 0) (tVar 1))) (CX : CXT) : L2H.FnH P w K mg base CX 1 fI fd ps (spInit C f) := by
  obtain ⟨oc, od, dV, kV, doc, pm, an, cdv, ct, osl, rfl, lk, hcd, _, _⟩ := F.ex
  refine L2H.fn_ofH lk hcd S (fun vs H Q E h => ?_) fun A outer s H vs Q E p hot hr h => ⟨_, hb CX cdv A outer s H E p, init_read T hno hN h⟩
  obtain ⟨a, v, rfl, _⟩ := h
  exact hp.symm
end
/-- C(e) with nothing handled: an exception whose context is None -/
theorem pmkN_err {X : Cx} {B : Tab} {c : Nat} {x : Str} {e : Expr} {ta : TA} {p pos : Pos} (Er : ErrC X.prog X.w X.K X.mg X.base B c x) (hr : Room 2 X.A) (ha : PA X [e] ta) (hg : Gl X x := by rfl)
    (hdb : (x == ("__debug__" : Str)) = false := by decide) (he : starEach [e] X.env = (false, eval e X.env) :: starEach [] X.env := by rfl) (hpl : (backTo pos (starEach [] X.env)).any (·.1) = false := by rfl) :
    L2N.PMk X (.Call (.Name x p) [e] [] pos) (tMkO (B.err c) (spInit (B.err c) (B.fld c)) [] ta) := by
  obtain ⟨fI, fd, ps, iC, tI, hb, F1, _⟩ := Er.ini
  have F1 := F1 (fun _ _ _ _ _ _ => False)
  intro pins s σ H Q I h
  obtain ⟨nm, q, N, bs, bm, sn, sub, ab, col, dd, k0, k1, k2, k3, k5, hC, hbm⟩ := Er.oex.cls
  refine wpAny_Call_Name_kw (ld_glob I hg Er.g ?_ hdb)
  refine PySem.W.callWith_K (h₀ := X.base) I.ok.mod.kin Er.oex.kC (thn (ha.run pos pins s σ H _ I h) fun us s1 ⟨vs, H1, I1, r1, hz, q1⟩ => ⟨I1.kIn, ?_⟩) he hpl
  show wpAny _ _ (call (.ref (B.err c)) us) _ _ _
  obtain ⟨hp, g, dr, tk, os⟩ := s1
  have up1 : hp.objs.size ≤ hp.objs.size + 1 := Nat.le_succ _
  have hq := q1 (hp.objs.size + 1) (I1.hok.fresh up1)
  rw [List.append_nil] at hq
  -- the heap with the new exception
  obtain ⟨hp2, ehp2⟩ : ∃ z, z = (hp.push (PySem.W.kdv_tup us)).push (PySem.HandSPX.excO (B.err c) hp.objs.size) := ⟨_, rfl⟩
  have kk : ∀ b o, hp.get? b = some o → hp2.get? b = some o := fun b o e => by rw [ehp2]; exact Heap.get?_push_of_some _ (Heap.get?_push_of_some _ e)
  have new : hp2.get? (hp.objs.size + 1) = some (PySem.HandSPX.excO (B.err c) hp.objs.size) := by rw [ehp2]; heap_get
  have I2 : Inv X pins σ (upd H1 (hp.objs.size + 1) (exo (hp.objs.size + 1) (B.err c) none)) ⟨hp2, g, dr, tk, os⟩ := I1.laid (t' := tk) (a := hp.objs.size + 1) (o := exo (hp.objs.size + 1) (B.err c) none) (h' := hp2) kk up1 (exo_ok new)
  have rr : Vals (V.ref (hp.objs.size + 1) :: vs) (Value.ref (hp.objs.size + 1) :: us) := .cons rfl r1
  have hl : (Value.ref (hp.objs.size + 1) :: us).length = ps.length := rr.length.symm.trans (F1.len _ _ _ _ hq)
  have hus : us.length ≤ sizeLine := by
    rw [← r1.length, sizeLine_eq]
    omega
  have bb := hb _ (Value.ref (hp.objs.size + 1) :: us) I2.kIn (by rw [List.append_nil]; exact hl)
  rw [List.append_nil] at bb
  have run := F1.run (X.A.under (.builtin "type.__call__" ⟨.ref (B.err c) :: us, []⟩)) X.stack _ _ ⟨Value.ref (hp.objs.size + 1) :: us, []⟩ (Value.ref (hp.objs.size + 1) :: us) _ _ (fun _ _ _ => False) (hr.make (B.err c) us []) (I2.env0.make (B.err c) us []) bb rr hq
  rw [ehp2] at run
  refine wpAny_call (PySem.HandSPX.call_own F.excBase_ValueError (fun Y => PySem.HandSPX.refsVE_contains Y bm hbm) (I1.kIn _ _ hC) (PySem.W.looks_findIn I1.kIn iC) (fun self => PySem.W.bind_fn I1.kIn self tI) hus (codeAny_mono run fun r s' hq' => ?_))
  cases r with
  | error er => exact (show False from hq').elim
  | ok fl =>
    cases fl with
    | ret u =>
      obtain ⟨v, H2, os2, bare2, un2, hok2, rv, ev, d, fs, ea, ed, hd1, q2⟩ := hq'
      subst ev
      obtain ⟨h2, g2, d2, t2, os'⟩ := s'
      rw [← ehp2] at un2
      obtain ⟨t0, G, J, kG, ge, hoe, na⟩ := mk_end0 (d2 := d2) (t2 := t2) I1 up1 kk un2 hok2 os2 bare2 ea ed hd1
      exact ⟨rv, hp.objs.size + 1, _, _, ⟨G, g2, d2, t2, os'⟩, _, .ref (B.err c), some d, rfl, J, kG, ge, hoe, ⟨rfl, rfl, fun vs hv => by cases hv; rfl⟩, rfl, rfl, na, rfl, bare2, raises_own Er.oex.exC Er.oex.tyC, q2⟩
    | next => exact False.elim hq'
    | brk => exact False.elim hq'
    | cont => exact False.elim hq'
theorem pmk_of_N {X : Cx} {e : Expr} {t : L2.St → Hp → XK → Prop} (h : L2N.PMk X e t) : L2.PMk X e t := fun pins s σ H Q I q => thn (h pins s σ H Q I q) fun u s' ⟨a, oe, vs, sI, H', cls, d, e1, J, k, h1, h2, hz, r⟩ => ⟨a, oe, vs, sI, H', cls, d, e1, J, k, h1, h2, hz.zc, r⟩
/-- the heap behind C(e) -/
theorem mko_heap {H1 : Hp} {a d : Addr} {f : Str} {v : V} {C : Addr} (ha : H1 a = none) (hd : d ≠ a) : upd (del (upd (upd (upd H1 a (exo a C none)) d (exd d [(f, v)])) a (exo a C (some d))) a) d (.xd [(f, v)]) = upd H1 d (.xd [(f, v)]) := by
  funext b
  by_cases h1 : b = d
  · subst h1; rw [upd_same, upd_same]
  · rw [upd_ne h1, upd_ne h1]
    by_cases h2 : b = a
    · subst h2; rw [del_same, ha]
    · rw [del_ne h2, upd_ne h2, upd_ne h1, upd_ne h2]
theorem mko_run {B : Tab} {T m : List Addr} {H : Hp} {h : AH} {c : Nat} {d : D} {v : V} {Q : XK} (hks : c ∈ B.ks) (R : RelH B T m H h) (r : Rep B T m H d v) (q : ∀ m' x H', Ext m H m' H' → RelH B T m' H' h → ErrAt B T m' H' c d x → Q (.ref (B.err c)) (some x) H') :
    ([v] : List V).length ≤ 1000 ∧ ∀ a, H a = none → spInit (B.err c) (B.fld c) (.ref a :: ([v] ++ [])) (upd H a (exo a (B.err c) none)) (fun v H2 => v = .non ∧ ∃ (d : Addr) (fs : List (Str × V)), H2 a = some (exo a (B.err c) (some d)) ∧ H2 d = some (exd d fs) ∧ H d = none ∧ Q (.ref (B.err c)) (some d) (upd (del H2 a) d (.xd fs))) (fun _ _ _ => False) := by
  refine ⟨by simp, fun a ha => ⟨a, v, rfl, upd_same, fun dx hdx hne => ⟨rfl, dx, [(B.fld c, v)], upd_same, ?_, ?_, ?_⟩⟩⟩
  · rw [upd_ne hne, upd_same]
  · rw [upd_ne hne] at hdx; exact hdx
  · rw [upd_ne hne] at hdx
    rw [mko_heap ha hne]
    exact q m dx _ (ext_new hdx) (R.new hdx) ⟨hks, v, upd_same, r.new hdx⟩
def sRaise (c : Nat) (fe : En → AH → Res D) : En → AH → RS := fun en h => (fe en h).bindS en fun d h1 => .exc c d en h1
theorem raise_read {B : Tab} {W : WX} {T m : List Addr} {σ : L2.St} {H : Hp} {en : En} {h : AH} {Z : Ends} {c : Nat} {fe : En → AH → Res D} {te : TE} (hks : c ∈ B.ks) (qe : ∀ T m σ H en h Q, RelH B T m H h → RelE B T m H en σ → PE_ B W T m σ H Q (fe en h) → te σ H Q)
    (R : RelH B T m H h) (Re : RelE B T m H en σ) (p : PS_ B W T m H Z (sRaise c fe en h)) : tMkO (B.err c) (spInit (B.err c) (B.fld c)) [] (tCons te tNil) σ H fun cls d H' => W cls d σ H' := by
  refine qe T m σ H en h _ R Re (Po.bindS Re p fun d h1 m1 v H1 x1 R1 r1 p1 => ?_)
  exact mko_run (Q := fun cls d H' => W cls d σ H') hks R1 r1 fun m' x H' y R' ea => p1 m' x σ H' y R' ((Re.mono x1).mono y) ea
section
variable {X : Cx} {B : Tab} {W : WX} {c : Nat} {x : Str} {e : Expr} {p pos pos' : Pos} {fe : En → AH → Res D}
theorem ss_raise (G : Good X B) (tk : L2.Takes X W) (Er : ErrC X.prog X.w X.K X.mg X.base B c x) (hr : Room 2 X.A) (he : EE X B W e fe) (hg : Gl X x := by rfl) (hdb : (x == ("__debug__" : Str)) = false := by decide) (hs : starEach [e] X.env = (false, eval e X.env) :: starEach [] X.env := by rfl)
    (hpl : (backTo pos (starEach [] X.env)).any (·.1) = false := by rfl) : SS X B W (.Raise (some (.Call (.Name x p) [e] [] pos)) none pos') (sRaise c fe) := by
  obtain ⟨te, pe, qe⟩ := he
  exact ⟨_, L2.ps_raise G.calm tk (pmk_of_N (pmkN_err Er hr (pa_cons pe pa_nil hs) hg hdb hs hpl)), fun T m σ H en h Z R Re p => raise_read Er.k qe R Re p⟩
theorem ss_raiseN (G : Good X B) (tk : L2N.Takes X W) (Er : ErrC X.prog X.w X.K X.mg X.base B c x) (hr : Room 2 X.A) (he : EE X B W e fe) (hg : Gl X x := by rfl) (hdb : (x == ("__debug__" : Str)) = false := by decide) (hs : starEach [e] X.env = (false, eval e X.env) :: starEach [] X.env := by rfl)
    (hpl : (backTo pos (starEach [] X.env)).any (·.1) = false := by rfl) : SS X B W (.Raise (some (.Call (.Name x p) [e] [] pos)) none pos') (sRaise c fe) := by
  obtain ⟨te, pe, qe⟩ := he
  exact ⟨_, L2N.ps_raise G.calm tk (pmkN_err Er hr (pa_cons pe pa_nil hs) hg hdb hs hpl), fun T m σ H en h Z R Re p => raise_read Er.k qe R Re p⟩
end

/-! ### one reading for all contexts: statements -/
def rdS (B : Tab) (W : WX) (f : En → AH → RS) : TS := fun Z σ H => ∃ T m en h, RelH B T m H h ∧ RelE B T m H en σ ∧ PS_ B W T m H Z (f en h)
theorem sss_rd {X : Cx} {B : Tab} {W : WX} {st : List Stmt} {f : En → AH → RS} (he : SSs X B W st f) : PSs X st (rdS B W f) := by
  obtain ⟨t, p, q⟩ := he
  exact ⟨fun pins s σ H Z I ⟨T, m, en, h, R, Re, z⟩ => p.run pins s σ H Z I (q T m σ H en h Z R Re z)⟩

/-! ### try: .. except C1: raise C2(e) from None -/
def sTryFrom (c1 c2 : Nat) (fb : En → AH → RS) (fe : En → AH → Res D) : En → AH → RS := fun en h => match fb en h with
  | .exc c d en1 h1 => bif c == c1 then sRaise c2 fe en1 h1 else .exc c d en1 h1
  | r => r
theorem ss_tryFrom {X : Cx} {B : Tab} {W : WX} {c1 c2 : Nat} {x1 x2 : Str} {body : List Stmt} {e : Expr} {pn p pos pos1 pos2 pos3 pos4 : Pos} {j : Nat} {fb : En → AH → RS} {fe : En → AH → Res D} (G : Good X B) (tk : L2.Takes X W) (hs : X.stack = X.env :: X.outer) (hf : X.env.frame = some X.env.locals)
    (hpa : ∀ hd : Option Value, PassesOwnAt (model X.prog X.w) (X.A.mark hd) X.A X.env X.xe) (hc : Names X x1 (.ref (B.err c1))) (hx : ∀ c ∈ B.ks, PySem.W.exmOne X.K (.ref (B.err c)) (.ref (B.err c1)) = some (c == c1))
    (Er : ErrC X.prog X.w X.K X.mg X.base B c2 x2) (hr : Room 2 X.A)
    (hb : ∀ (V : WX) (pn : List (Addr × Obj)) (xe : Value → Shared → Prop), L2N.Takes (X.tr pn xe) V → SSs (X.tr pn xe) B V body fb)
    (he : ∀ (a : Addr) (pn : List (Addr × Obj)), EE (L2H.suiteX X a pn) B W e fe) (hg : ∀ (a : Addr) (pn : List (Addr × Obj)), Gl (L2H.suiteX X a pn) x2 := by intros; rfl) (hdb : (x2 == ("__debug__" : Str)) = false := by decide)
    (hst : starEach [e] X.env = (false, eval e X.env) :: starEach [] X.env := by rfl) (hpl : (backTo pos (starEach [] X.env)).any (·.1) = false := by rfl) :
    SS X B W (.Try body [.ExceptHandler (some (.Name x1 pn)) none [.Raise (some (.Call (.Name x2 p) [e] [] pos)) (some (.Constant .none j pos1)) pos2] pos3] [] [] pos4) (sTryFrom c1 c2 fb fe) := by
  obtain ⟨fI, fd, ps, iC, tI, hbd, _, F1⟩ := Er.ini
  -- the clause's own reading
  have key : ∀ (a : Addr) (oe : Obj) (cls : Value) (d : Option Addr) (pn : List (Addr × Obj)), L2N.Zn cls d oe → (∃ vs, oe.data = .fields vs) → L2.Takes (L2H.suiteX X a ((a, oe) :: pn)) W → L2H.HotC (L2H.suiteX X a ((a, oe) :: pn)) →
      PSs (L2H.suiteX X a ((a, oe) :: pn)) [.Raise (some (.Call (.Name x2 p) [e] [] pos)) (some (.Constant .none j pos1)) pos2] (fun D σ H => tMkO (B.err c2) (spInit (B.err c2) (B.fld c2)) [] (tCons (rd B W (RD B) fe) tNil) σ H fun cls d H' => W cls d σ H') := fun a oe cls d pn hz hfl tkS hot =>
    pss_one (L2H.ps_raiseHN hot tkS (L2H.pmk5_oexH (CX := fun _ _ _ _ _ _ => False) Er.oex iC tI (F1 _) (L2H.roomH_mark hr _) hot hbd (fun _ _ _ _ _ _ _ z => z.elim) (hg a _) Er.g (pa_cons (ee_rd (he a ((a, oe) :: pn))) pa_nil hst) hdb hst hpl))
  refine ⟨_, L2H.ps_try_onlyX hs hf hc hpa tk (fun V pn xe tkN tkP _ => sss_rd (hb V pn xe tkN)) (fun a oe cls d pn hz hfl tkS hot => key a oe cls d pn hz hfl tkS hot), fun T m σ H en h Z R Re p => ⟨T, m, en, h, R, Re, ?_⟩⟩
  unfold sTryFrom at p
  cases z : fb en h with
  | stuck => rw [z] at p; exact p
  | nx en' h' => rw [z] at p; exact p
  | ret d h' => rw [z] at p; exact p
  | brk en' h' => rw [z] at p; exact p
  | cont en' h' => rw [z] at p; exact p
  | exc c d en1 h1 =>
    rw [z] at p
    simp only at p
    intro m' y σ' H' x' R' Re' ea
    have zl := ea.1
    cases zc : c == c1 with
    | false =>
      rw [zc] at p
      exact ⟨_, hx c zl, fun q => (by rw [zc] at q; cases q), fun _ => p m' y σ' H' x' R' Re' ea⟩
    | true =>
      rw [zc] at p
      refine ⟨_, hx c zl, fun _ a ha => ?_, fun q => (by rw [zc] at q; cases q)⟩
      have p2 : PS_ B W T m' H' Z (sRaise c2 fe en1 h1) := PS_.from x' p
      exact raise_read Er.k (te := rd B W (RD B) fe) (fun T m σ H en h Q R Re p => ⟨T, m, en, h, R, Re, p⟩) R' Re' p2
end Cb
/-! The Cb layer, part 15: try with clauses that tell what was raised. -/
namespace Cb
open PySem PySem.Spec PyProof.Rows L2

/-- a test of the caught error (class number c, in slot i) that is true -/
structure SC (X : Cx) (B : Tab) (c i : Nat) (e : Expr) (k : Bool) : Prop where
  run : ∀ (a : Addr) (oe : Obj) (d : Addr) (pn : List (Addr × Obj)) (fs : List (Str × V)), Zc (.ref (B.err c)) (some d) oe → (∃ vs, oe.data = .fields vs) →
  ∃ t, PE (X.suite a ((a, oe) :: pn)) e t ∧ ∀ σ H Q, σ[i]? = some (some (.ref a)) → H d = some (.xd fs) → Q (.bl k) H → t σ H Q
section
variable {X : Cx} {B : Tab} {c i : Nat} {n y : Str} {C2 : Addr} {k : Bool} {p p1 p2 p3 pos : Pos} {e e1 e2 : Expr}
theorem sc_is (Er : ExcC X.K (B.err c)) (hm : X.mg "isinstance" = none) (hy : X.mg y = some (.ref C2)) (hk : PySem.W.kitOne X.K (.ref (B.err c)) (.ref C2) = some k)
    (hN : X.N[i]? = some n) (hv : Vis X.env.scope n) (hg : Gl X "isinstance" := by rfl) (hgy : Gl X y := by rfl) (hd1 : (n == ("__debug__" : Str)) = false := by decide) (hcd : (n == ("__classdict__" : Str)) = false := by decide) (hdy : (y == ("__debug__" : Str)) = false := by decide)
    (hs : starEach [.Name n p1, .Name y p2] X.env = (false, eval (.Name n p1) X.env) :: starEach [.Name y p2] X.env := by rfl) (hs2 : starEach [.Name y p2] X.env = (false, eval (.Name y p2) X.env) :: starEach [] X.env := by rfl) :
    SC X B c i (.Call (.Name "isinstance" p) [.Name n p1, .Name y p2] [] pos) k := ⟨fun a oe d pn fs hz hf => by
  refine ⟨_, pe_callB (X := X.suite a ((a, oe) :: pn)) (call_isErr (fs := fs) Er hz hf) hg hm PyProof.Rows.boot_isinstance (pa_cons (pe_var hN hv hd1 hcd) (pa_cons (pe_glob (v := .ref C2) hgy hy rfl hdy) pa_nil hs2) hs), fun σ H Q e1 e2 q => ?_⟩
  exact ⟨_, e1, .ref C2, .ref C2, k, rfl, fun u r => r, hk, e2, q⟩⟩
theorem sc_not (h : SC X B c i e false) : SC X B c i (.UnaryOp .Not e pos) true := ⟨fun a oe d pn fs hz hf => by
  obtain ⟨t, pt, qt⟩ := h.run a oe d pn fs hz hf
  exact ⟨_, pe_notT pt, fun σ H Q e1 e2 q => qt σ H _ e1 e2 ⟨false, rfl, q⟩⟩⟩
theorem sc_and (h1 : SC X B c i e1 true) (h2 : SC X B c i e2 k) : SC X B c i (.BoolOp .And [e1, e2] pos) k := ⟨fun a oe d pn fs hz hf => by
  obtain ⟨t1, p1, q1⟩ := h1.run a oe d pn fs hz hf
  obtain ⟨t2, p2, q2⟩ := h2.run a oe d pn fs hz hf
  exact ⟨_, pe_and p1 (pe_one p2), fun σ H Q e1 e2 q => q1 σ H _ e1 e2 ⟨true, rfl, by rw [if_pos rfl]; exact q2 σ H Q e1 e2 q⟩⟩⟩
end
/-- one clause: the class number, the slot, the word, the truth -/
structure Cl where
  c : Nat
  i : Nat
  w : Str
  k : Bool
def pick (l : List Cl) (c : Nat) : Option Cl := l.find? fun q => q.c == c
def sTry (l : List Cl) (fb : En → AH → RS) : En → AH → RS := fun en h => match fb en h with
  | .exc c d en1 h1 => (match pick l c with
    | some q => bif decide (q.i < en1.length) then .ret (.tup [.str q.w, d, .bl q.k]) h1 else .stuck
    | none => .exc c d en1 h1)
  | r => r
/-- what a clause does: it tells the word, the field, the truth -/
def tsQ (B : Tab) (q : Cl) : Addr → Value → Option Addr → TS := fun a cls d Z σ H => cls = .ref (B.err q.c) ∧ ∃ (dd : Addr) (v : V), d = some dd ∧ H dd = some (.xd [(B.fld q.c, v)]) ∧ σ[q.i]? = some (some (.ref a)) ∧ ∀ p, H p = none → Z.rt (.ref p) (upd H p (.tup [.str q.w, v, .bl q.k]))
def hdOf (B : Tab) (q : Cl) : Hd := (.ref (B.err q.c), q.i, tsQ B q)
theorem clause_ok {X : Cx} {B : Tab} {q : Cl} {n f : Str} {e : Expr} {p0 p1 p2 p3 p4 : Pos} {j : Nat} {kk} (hN : X.N[q.i]? = some n) (hv : Vis X.env.scope n) (T : XfC X.K (B.err q.c)) (hf : B.fld q.c = f) (hno : PySem.W.findIn X.K (.ref (B.err q.c)) (B.fld q.c) = some none) (hs : SC X B q.c q.i e q.k)
    (hn : (n == ("__debug__" : Str)) = false := by decide) (hn2 : (n == ("__classdict__" : Str)) = false := by decide)
    (h1 : starEach [.Constant (.str q.w) j p1, .Attribute (.Name n p2) f p3, e] X.env = (false, eval (.Constant (.str q.w) j p1) X.env) :: starEach [.Attribute (.Name n p2) f p3, e] X.env := by rfl) (h2 : starEach [.Attribute (.Name n p2) f p3, e] X.env = (false, eval (.Attribute (.Name n p2) f p3) X.env) :: starEach [e] X.env := by rfl)
    (h3 : starEach [e] X.env = (false, eval e X.env) :: starEach [] X.env := by rfl) (hb : attributeBase (.Name n p2) f X.env (eval (.Name n p2) X.env) = eval (.Name n p2) X.env := by rfl)
    (a : Addr) (oe : Obj) (cls : Value) (d : Option Addr) (pn : List (Addr × Obj)) (hz : Zc cls d oe) (hfl : ∃ vs, oe.data = .fields vs) :
    PSs (X.suite a ((a, oe) :: pn)) [.Return (some (.Tuple [.Constant (.str q.w) j p1, .Attribute (.Name n p2) f p3, e] kk p4)) p0] (tsQ B q a cls d) := by
  refine ⟨fun pins s σ H Z I h => ?_⟩
  obtain ⟨rfl, dd, v, rfl, ed, es, w⟩ := h
  obtain ⟨t, pt, qt⟩ := hs.run a oe dd pn [(B.fld q.c, v)] hz hfl
  subst hf
  refine (pss_one (ps_ret (pe_tup (pa_cons pe_str (pa_cons (pe_xf T hno hz hfl (pe_var hN hv hn hn2) hb) (pa_cons pt pa_nil h3) h2) h1)))).run pins s σ H Z I ?_
  refine ⟨_, es, rfl, rfl, dd, [(B.fld q.c, v)], v, rfl, ed, ?_, qt σ H _ es ed ⟨by simp [sizeLine], w⟩⟩
  simp [List.lookup]
theorem hds_nil {X : Cx} {B : Tab} : HdsAs X [] (([] : List Cl).map (hdOf B)) := .nil
theorem hds_cons {X : Cx} {B : Tab} {x n f : Str} {e : Expr} {p0 p1 p2 p3 p4 np pos' : Pos} {j : Nat} {kk} {hds : List ExceptHandler} {l : List Cl} (q : Cl) (hN : X.N[q.i]? = some n) (hln : X.env.kindOf n = some .local) (hc : Names X x (.ref (B.err q.c))) (T : XfC X.K (B.err q.c)) (hf : B.fld q.c = f) (hno : PySem.W.findIn X.K (.ref (B.err q.c)) (B.fld q.c) = some none) (hs : SC X B q.c q.i e q.k)
    (r : HdsAs X hds (l.map (hdOf B))) (hn : (n == ("__debug__" : Str)) = false := by decide) (hn2 : (n == ("__classdict__" : Str)) = false := by decide)
    (h1 : starEach [.Constant (.str q.w) j p1, .Attribute (.Name n p2) f p3, e] X.env = (false, eval (.Constant (.str q.w) j p1) X.env) :: starEach [.Attribute (.Name n p2) f p3, e] X.env := by rfl) (h2 : starEach [.Attribute (.Name n p2) f p3, e] X.env = (false, eval (.Attribute (.Name n p2) f p3) X.env) :: starEach [e] X.env := by rfl)
    (h3 : starEach [e] X.env = (false, eval e X.env) :: starEach [] X.env := by rfl) (hb : attributeBase (.Name n p2) f X.env (eval (.Name n p2) X.env) = eval (.Name n p2) X.env := by rfl) :
    HdsAs X (.ExceptHandler (some (.Name x np)) (some n) [.Return (some (.Tuple [.Constant (.str q.w) j p1, .Attribute (.Name n p2) f p3, e] kk p4)) p0] pos' :: hds) ((q :: l).map (hdOf B)) :=
  .cons hN hln hc (clause_ok hN (.inl hln) T hf hno hs hn hn2 h1 h2 h3 hb) r
theorem ss_try {X : Cx} {B : Tab} {W : WX} {l : List Cl} {body : List Stmt} {h₀ : ExceptHandler} {hds : List ExceptHandler} {pos : Pos} {fb : En → AH → RS} (G : Good X B) (tk : L2.Takes X W) (hs : X.stack = X.env :: X.outer) (hf : X.env.frame = some X.env.locals)
    (hb : ∀ (V : WX) (pn : List (Addr × Obj)) (xe : Value → Shared → Prop), L2.Takes (X.tr pn xe) V → PassesOwn (model X.prog X.w) X.A X.env xe → SSs (X.tr pn xe) B V body fb)
    (hh : HdsAs X (h₀ :: hds) (l.map (hdOf B))) (hx : ∀ q ∈ l, ∀ c ∈ B.ks, PySem.W.exmOne X.K (.ref (B.err c)) (.ref (B.err q.c)) = some (c == q.c)) :
    SS X B W (.Try body (h₀ :: hds) [] [] pos) (sTry l fb) := by
  refine ⟨_, ps_try_all hs hf G.nd tk (fun V pn xe tkV pa => sss_rd (hb V pn xe tkV pa)) hh, fun T m σ H en h Z R Re p => ⟨T, m, en, h, R, Re, ?_⟩⟩
  unfold sTry at p
  cases z : fb en h with
  | stuck => rw [z] at p; exact p
  | nx en' h' => rw [z] at p; exact p
  | ret d h' => rw [z] at p; exact p
  | brk en' h' => rw [z] at p; exact p
  | cont en' h' => rw [z] at p; exact p
  | exc c d en1 h1 =>
    rw [z] at p
    simp only at p
    intro m' y σ' H' x' R' Re' ea
    have zl := ea.1
    clear hh
    induction l with
    | nil => exact p m' y σ' H' x' R' Re' ea
    | cons q r ih =>
      have ihr := ih (fun q' hq' => hx q' (List.mem_cons_of_mem _ hq'))
      refine ⟨_, hx q List.mem_cons_self c zl, fun hc a ha => ?_, fun hc => ihr ?_⟩
      · have e : pick (q :: r) c = some q := by
          unfold pick
          rw [List.find?_cons]
          rw [show (q.c == c) = true by rw [beq_iff_eq] at hc ⊢; exact hc.symm]
        rw [e] at p
        simp only at p
        cases zi : decide (q.i < en1.length) with
        | false => rw [zi] at p; exact p.elim
        | true =>
          rw [zi] at p
          have zi := of_decide_eq_true zi
          have hc := eq_of_beq hc
          subst hc
          obtain ⟨_, v, ev, rv⟩ := ea
          refine ⟨rfl, y, v, rfl, ev, List.getElem?_set_self (by rw [← Re'.len]; exact zi), fun t ht => ?_⟩
          exact p m' (.ref t) _ (x'.trans (ext_new ht)) (R'.new ht) (rep_tup R' (.cons (.str _) (.cons rv (.cons (.bl _) .nil))) ht)
      · have e : pick (q :: r) c = pick r c := by
          unfold pick
          rw [List.find?_cons]
          rw [show (q.c == c) = false by rw [beq_eq_false_iff_ne] at hc ⊢; exact fun w => hc w.symm]
        rw [e] at p
        exact p
end Cb
/-! The Cb layer, part 16: short names for the printed texts; the head's facts; the law's end. -/
namespace Cb
open PySem PySem.Spec PyProof.Rows L2

abbrev cI (i : Int) : En → AH → Res D := fun _ h => .ok (.int i) h
abbrev cS (x : Str) : En → AH → Res D := fun _ h => .ok (.str x) h
abbrev cB (b : Bool) : En → AH → Res D := fun _ h => .ok (.bl b) h
abbrev cN : En → AH → Res D := fun _ h => .ok .non h
abbrev anil : En → AH → Res (List D) := fun _ h => .ok [] h
abbrev skip : En → AH → RS := fun en h => .nx en h
abbrev oN : En → AH → Res (Option Int) := fun _ h => .ok none h
abbrev oS (fa : En → AH → Res D) : En → AH → Res (Option Int) := fun en h => (fa en h).bind asI
abbrev tisN (fa : En → AH → Res D) : En → AH → Res Bool := fun en h => (fa en h).bind fun d h1 => .ok d.isNon h1
abbrev tnotN (fa : En → AH → Res D) : En → AH → Res Bool := fun en h => (fa en h).bind fun d h1 => .ok (!d.isNon) h1
abbrev tyes : En → AH → Res Bool := fun _ h => .ok true h
abbrev rvs (mk : List D → AH → Res D) (fa : En → AH → Res D) : En → AH → Res D := fun en h => (fa en h).bind fun x h1 => match asL h1 x with
  | some l => mk l.reverse h1
  | none => .stuck
abbrev mkLF : List D → AH → Res D := fun l h => .ok (.lst l) h
abbrev mkLC : List D → AH → Res D := fun l h => .ok (.ref h.length) (h ++ [.vals l])
abbrev cBrk : En → AH → RS := fun en h => .brk en h
abbrev cCont : En → AH → RS := fun en h => .cont en h
abbrev cRetN : En → AH → RS := fun _ h => .ret .non h

theorem good_of {CX : CXT} {P : Program} {w : World} {K : PySem.W.Frag} {mg : Str → Option Value} {base : Heap} {N : List Str} {qual : Str} {scope : Scope} {f : Addr} {cdv : Value} {A : Around} {outer : List Env} {s : Shared} {H : Hp} {E : XK} {B : Tab} {k : Nat}
    (hB : B.K = K) (hN : N.Nodup) (hr : Room k (A.deeper (envOfC qual scope s.heap.objs.size f cdv))) : Good (cxOf CX P w K mg base N qual scope f cdv A outer s H E) B :=
  ⟨hB, rfl, hN, by have := hr.un; show (A.deeper (envOfC qual scope s.heap.objs.size f cdv)).units + 100 < cLine; omega⟩
theorem Good.blk {X : Cx} {B : Tab} (G : Good X B) {s : Shared} {H : Hp} {scope : Scope} {cenv : Env} {fp : List Addr} : Good (X.blk s H scope cenv fp) B := ⟨G.K, G.calm, G.nd, G.un⟩
theorem Good.tr {X : Cx} {B : Tab} (G : Good X B) {pn : List (Addr × Obj)} {xe : Value → Shared → Prop} : Good (X.tr pn xe) B := ⟨G.K, G.calm, G.nd, G.un⟩

section
variable {X : Cx} {B : Tab} {W : WX} {a b : Expr} {p pos : Pos} {fs : En → AH → Res (List D)} {fa fb : En → AH → Res D}
theorem ee_abs (hm : X.mg "abs" = none) (ha : EA X B W [a] fs) (hg : Gl X "abs" := by rfl) (he : starEach [a] X.env = (false, eval a X.env) :: starEach [] X.env := by rfl) (hpl : (backTo pos (starEach [] X.env)).any (·.1) = false := by rfl) : EE X B W (.Call (.Name "abs" p) [a] [] pos) (dsp bAbs fs) := ee_callB call_abs c1_abs hm boot_abs ha hg (by decide) (by decide) he hpl
theorem ee_max2 (G : Good X B) (hm : X.mg "max" = none) (ha : EA X B W [a, b] fs) (hg : Gl X "max" := by rfl) (he : starEach [a, b] X.env = (false, eval a X.env) :: starEach [b] X.env := by rfl) (hpl : (backTo pos (starEach [b] X.env)).any (·.1) = false := by rfl) : EE X B W (.Call (.Name "max" p) [a, b] [] pos) (dsp bMax2 fs) := ee_callB (call_max2 G.calm) c1_max2 hm boot_max ha hg (by decide) (by decide) he hpl
theorem ee_min2 (G : Good X B) (hm : X.mg "min" = none) (ha : EA X B W [a, b] fs) (hg : Gl X "min" := by rfl) (he : starEach [a, b] X.env = (false, eval a X.env) :: starEach [b] X.env := by rfl) (hpl : (backTo pos (starEach [b] X.env)).any (·.1) = false := by rfl) : EE X B W (.Call (.Name "min" p) [a, b] [] pos) (dsp bMin2 fs) := ee_callB (call_min2 G.calm) c1_min2 hm boot_min ha hg (by decide) (by decide) he hpl
theorem ee_maxL (G : Good X B) (hm : X.mg "max" = none) (ha : EA X B W [a] fs) (hg : Gl X "max" := by rfl) (he : starEach [a] X.env = (false, eval a X.env) :: starEach [] X.env := by rfl) (hpl : (backTo pos (starEach [] X.env)).any (·.1) = false := by rfl) : EE X B W (.Call (.Name "max" p) [a] [] pos) (dsp bMaxL fs) := ee_callB (cr_max G.calm) (c1_maxL G) hm boot_max ha hg (by decide) (by decide) he hpl
theorem ee_minL (G : Good X B) (hm : X.mg "min" = none) (ha : EA X B W [a] fs) (hg : Gl X "min" := by rfl) (he : starEach [a] X.env = (false, eval a X.env) :: starEach [] X.env := by rfl) (hpl : (backTo pos (starEach [] X.env)).any (·.1) = false := by rfl) : EE X B W (.Call (.Name "min" p) [a] [] pos) (dsp bMinL fs) := ee_callB (cr_min G.calm) (c1_minL G) hm boot_min ha hg (by decide) (by decide) he hpl
theorem ee_gcd (hm : X.mg "gcd" = some (.builtin "math.gcd")) (ha : EA X B W [a, b] fs) (hg : Gl X "gcd" := by rfl) (he : starEach [a, b] X.env = (false, eval a X.env) :: starEach [b] X.env := by rfl) (hpl : (backTo pos (starEach [b] X.env)).any (·.1) = false := by rfl) : EE X B W (.Call (.Name "gcd" p) [a, b] [] pos) (dsp bGcd fs) := ee_callF cr_gcd c1_gcd hm ha hg (by decide) he hpl
theorem ee_intc (hm : X.mg "int" = none) (ha : EA X B W [a] fs) (hg : Gl X "int" := by rfl) (he : starEach [a] X.env = (false, eval a X.env) :: starEach [] X.env := by rfl) (hpl : (backTo pos (starEach [] X.env)).any (·.1) = false := by rfl) : EE X B W (.Call (.Name "int" p) [a] [] pos) (dsp bInt fs) := ee_callTy call_int1 c1_int hm boot_int ha hg (by decide) (by decide) he hpl
theorem ee_tupc (G : Good X B) (hm : X.mg "tuple" = none) (ha : EA X B W [a] fs) (hg : Gl X "tuple" := by rfl) (he : starEach [a] X.env = (false, eval a X.env) :: starEach [] X.env := by rfl) (hpl : (backTo pos (starEach [] X.env)).any (·.1) = false := by rfl) : EE X B W (.Call (.Name "tuple" p) [a] [] pos) (dsp bTup fs) := ee_callTy call_tuple_of (c1_tup G) hm boot_tuple ha hg (by decide) (by decide) he hpl
theorem ee_lstcF (G : Good X B) (hm : X.mg "list" = none) (ha : EA X B W [a] fs) (hg : Gl X "list" := by rfl) (he : starEach [a] X.env = (false, eval a X.env) :: starEach [] X.env := by rfl) (hpl : (backTo pos (starEach [] X.env)).any (·.1) = false := by rfl) : EE X B W (.Call (.Name "list" p) [a] [] pos) (dsp (bLst mkF) fs) := ee_callTy call_list_of (c1_lst G fun W T m σ H h Q ds xs => mkF_run) hm boot_list ha hg (by decide) (by decide) he hpl
theorem ee_lstcC (G : Good X B) (hm : X.mg "list" = none) (ha : EA X B W [a] fs) (hg : Gl X "list" := by rfl) (he : starEach [a] X.env = (false, eval a X.env) :: starEach [] X.env := by rfl) (hpl : (backTo pos (starEach [] X.env)).any (·.1) = false := by rfl) : EE X B W (.Call (.Name "list" p) [a] [] pos) (dsp (bLst mkC) fs) := ee_callTy call_list_of (c1_lst G fun W T m σ H h Q ds xs => mkC_run) hm boot_list ha hg (by decide) (by decide) he hpl
theorem ee_sum (G : Good X B) (hm : X.mg "sum" = none) (ha : EA X B W [a] fs) (hg : Gl X "sum" := by rfl) (he : starEach [a] X.env = (false, eval a X.env) :: starEach [] X.env := by rfl) (hpl : (backTo pos (starEach [] X.env)).any (·.1) = false := by rfl) : EE X B W (.Call (.Name "sum" p) [a] [] pos) (dsp bSum fs) := ee_callB (cr_sum G.calm) (c1_sum G) hm boot_sum ha hg (by decide) (by decide) he hpl
theorem ee_all (G : Good X B) (hm : X.mg "all" = none) (ha : EA X B W [a] fs) (hg : Gl X "all" := by rfl) (he : starEach [a] X.env = (false, eval a X.env) :: starEach [] X.env := by rfl) (hpl : (backTo pos (starEach [] X.env)).any (·.1) = false := by rfl) : EE X B W (.Call (.Name "all" p) [a] [] pos) (dsp bAll fs) := ee_callB (cr_all G.calm) (c1_all G) hm boot_all ha hg (by decide) (by decide) he hpl
theorem ee_any (G : Good X B) (hm : X.mg "any" = none) (ha : EA X B W [a] fs) (hg : Gl X "any" := by rfl) (he : starEach [a] X.env = (false, eval a X.env) :: starEach [] X.env := by rfl) (hpl : (backTo pos (starEach [] X.env)).any (·.1) = false := by rfl) : EE X B W (.Call (.Name "any" p) [a] [] pos) (dsp bAny fs) := ee_callB (cr_any G.calm) (c1_any G) hm boot_any ha hg (by decide) (by decide) he hpl
theorem ee_sortF (G : Good X B) (hm : X.mg "sorted" = none) (ha : EA X B W [a] fs) (hg : Gl X "sorted" := by rfl) (he : starEach [a] X.env = (false, eval a X.env) :: starEach [] X.env := by rfl) (hpl : (backTo pos (starEach [] X.env)).any (·.1) = false := by rfl) : EE X B W (.Call (.Name "sorted" p) [a] [] pos) (dsp (bSort mkF) fs) := ee_callB cr_sorted (c1_sort G fun W T m σ H h Q ds xs => mkF_run) hm boot_sorted ha hg (by decide) (by decide) he hpl
theorem ee_sortC (G : Good X B) (hm : X.mg "sorted" = none) (ha : EA X B W [a] fs) (hg : Gl X "sorted" := by rfl) (he : starEach [a] X.env = (false, eval a X.env) :: starEach [] X.env := by rfl) (hpl : (backTo pos (starEach [] X.env)).any (·.1) = false := by rfl) : EE X B W (.Call (.Name "sorted" p) [a] [] pos) (dsp (bSort mkC) fs) := ee_callB cr_sorted (c1_sort G fun W T m σ H h Q ds xs => mkC_run) hm boot_sorted ha hg (by decide) (by decide) he hpl
/-- list * int into a mutable list -/
def dMulC : D → D → AH → Res D
  | d, .int k, h => (match asM h d with
    | some a => bif decide (k < 1000000) && (decide (-1000000 < k) && decide (a.length * k.toNat ≤ LIM)) then .ok (.ref h.length) (h ++ [.vals (List.replicate k.toNat a).flatten]) else .stuck
    | _ => .stuck)
  | _, _, _ => .stuck
theorem o2_mulC : O2 X B rRep dMulC := by
  intro W T m σ H h Q dx dy x y R rx ry p
  cases ry with
  | int k =>
    have p : PE_ B W T m σ H Q (match asM h dx with
      | some a => bif decide (k < 1000000) && (decide (-1000000 < k) && decide (a.length * k.toNat ≤ LIM)) then .ok (.ref h.length) (h ++ [.vals (List.replicate k.toNat a).flatten]) else .stuck
      | _ => .stuck) := p
    cases e1 : asM h dx with
    | none => rw [e1] at p; exact p.elim
    | some a =>
      obtain ⟨l, xs, rfl, h1, r1⟩ := asM_rep R rx e1
      rw [e1] at p
      have p2 : PE_ B W T m σ H Q (bif decide (k < 1000000) && (decide (-1000000 < k) && decide (a.length * k.toNat ≤ LIM)) then .ok (.ref h.length) (h ++ [.vals (List.replicate k.toNat a).flatten]) else .stuck) := p
      cases q : decide (k < 1000000) && (decide (-1000000 < k) && decide (a.length * k.toNat ≤ LIM)) with
      | false => rw [q] at p2; exact p2.elim
      | true =>
        rw [q] at p2
        obtain ⟨q1, q⟩ := Bool.and_eq_true_iff.mp q
        obtain ⟨q2, q3⟩ := Bool.and_eq_true_iff.mp q
        have q1 := of_decide_eq_true q1
        have q2 := of_decide_eq_true q2
        have q3 := of_decide_eq_true q3
        rw [r1.length, ← lim_eq] at q3
        exact ⟨l, k, xs, rfl, rfl, h1, by omega, by omega, q3, fun pp n => p2 _ _ _ (ext_cell n) (R.cellNew n ⟨_, upd_same, (r1.flat _).mono (ext_cell n)⟩) (.ref (by rw [← R.len]; simp))⟩
  | _ => exact p.elim
theorem ee_mulC (ha : EE X B W a fa) (hb : EE X B W b fb) : EE X B W (.BinOp a .Mult b pos) (bin dMulC fa fb) := ee_bin op_rep o2_mulC ha hb
end

/-! ### an error class, from the head -/
def oexB (K : PySem.W.Frag) (C : Addr) : Bool := (match K.lookup C with
  | some ⟨.type t, _, .cls cd, sl⟩ => t == "type" && (cd.hasDict && (!cd.hasDel && ((match cd.mro with
    | .ref C' :: bm => C' == C && PySem.HandSPX.refsVE bm
    | _ => false) && (match sl.toList with
      | [_, _, _, _, some (.builtin n), _] => n == "ValueError.__new__"
      | _ => false))))
  | _ => false) && (He.eqO (PySem.W.findIn K (.ref C) "__setattr__") (some (some (.builtin "object.__setattr__"))) && (decide (PySem.W.subIn K (.ref C) (.type "BaseException") = some true) && (decide (PySem.W.typeIn K (.ref C) = some (.type "type")) && PySem.W.keepIn K (.ref C))))
theorem oexB_ok {K : PySem.W.Frag} {C : Addr} (h : oexB K C = true) : OexC K C := by
  obtain ⟨h0, h⟩ := He.ba h
  obtain ⟨h1, h⟩ := He.ba h
  obtain ⟨h2, h⟩ := He.ba h
  obtain ⟨h3, h4⟩ := He.ba h
  refine ⟨?_, He.eqO_ok h1, of_decide_eq_true h2, of_decide_eq_true h3, h4⟩
  cases q : K.lookup C with
  | none => rw [q] at h0; cases h0
  | some o =>
    obtain ⟨oc, od, dt, sl⟩ := o
    rw [q] at h0
    cases oc with
    | type t =>
      cases dt with
      | cls cd =>
        obtain ⟨a1, b1⟩ := He.ba h0
        obtain ⟨a2, b2⟩ := He.ba b1
        obtain ⟨a3, b3⟩ := He.ba b2
        obtain ⟨a4, a5⟩ := He.ba b3
        obtain ⟨nm, bs, mro, N, qn, hdct, sn, sub, ab, col, hdel⟩ := cd
        have et : t = "type" := eq_of_beq a1
        subst et
        have ed : hdct = true := a2
        subst ed
        have el : hdel = false := by
          cases hdel with
          | false => rfl
          | true => cases a3
        subst el
        obtain ⟨sl⟩ := sl
        cases mro with
        | nil => cases a4
        | cons m0 bm =>
          cases m0 with
          | ref C' =>
            obtain ⟨c1, c2⟩ := He.ba (show (C' == C && PySem.HandSPX.refsVE bm) = true from a4)
            have ec : C' = C := eq_of_beq c1
            subst ec
            match sl, a5 with
            | [k0, k1, k2, k3, some (.builtin n), k5], a5 =>
              have en : n = "ValueError.__new__" := eq_of_beq a5
              subst en
              exact ⟨nm, qn, N, bs, bm, sn, sub, ab, col, od, k0, k1, k2, k3, k5, rfl, c2⟩
          | _ => cases a4
      | _ => cases h0
    | _ => cases dt <;> cases h0
/-- every fact of the class x with the field f -/
def errB (K : PySem.W.Frag) (x f : Str) : Bool := oexB K (He.ga K x) && (He.eqO (PySem.W.findIn K (.ref (He.ga K x)) "__init__") (some (some (.ref (He.fAd K (x, some "__init__"))))) && (decide (PySem.W.typeIn K (.ref (He.fAd K (x, some "__init__"))) = some (.type "function")) &&
  (He.eqO (PySem.W.findIn K (.ref (He.ga K x)) f) (some none) && (xfB K (He.ga K x) && (He.eqO (PySem.W.findIn K (.ref (He.ga K x)) "__class__") (some (some (.builtin "object.__class__"))) &&
    (decide (PySem.W.specialIn K (.builtin "object.__class__") "__get__" = some (some (.builtin "getset_descriptor.__get__"))) && (decide (PySem.W.takesIn K (.builtin "object.__class__") = some true) && decide (PySem.W.mroIn K (He.ga K x) (.type "object") = some true))))))))
structure ErrF (K : PySem.W.Frag) (x f : Str) : Prop where
  oex : OexC K (He.ga K x)
  ini : PySem.W.findIn K (.ref (He.ga K x)) "__init__" = some (some (.ref (He.fAd K (x, some "__init__"))))
  ty : PySem.W.typeIn K (.ref (He.fAd K (x, some "__init__"))) = some (.type "function")
  no : PySem.W.findIn K (.ref (He.ga K x)) f = some none
  xf : XfC K (He.ga K x)
  exc : ExcC K (He.ga K x)
theorem errB_ok {K : PySem.W.Frag} {x f : Str} (h : errB K x f = true) : ErrF K x f := by
  obtain ⟨h1, h⟩ := He.ba h
  obtain ⟨h2, h⟩ := He.ba h
  obtain ⟨h3, h⟩ := He.ba h
  obtain ⟨h4, h⟩ := He.ba h
  obtain ⟨h5, h⟩ := He.ba h
  obtain ⟨h6, h⟩ := He.ba h
  obtain ⟨h7, h⟩ := He.ba h
  obtain ⟨h8, h9⟩ := He.ba h
  have X := xfB_ok h5
  exact ⟨oexB_ok h1, He.eqO_ok h2, of_decide_eq_true h3, He.eqO_ok h4, X, X.ga, X.gg, X.exC, X.hdC, He.eqO_ok h6, of_decide_eq_true h7, of_decide_eq_true h8, of_decide_eq_true h9⟩
theorem err_of {P : Program} {w : World} {K : PySem.W.Frag} {mg : Str → Option Value} {base : Heap} {B : Tab} {c : Nat} {x f name qual : Str} {params : Arguments} {body : List Stmt} {scope : Scope} {fd : FuncData} {N ps : List Str} (Ef : ErrF K x f) (hk : c ∈ B.ks) (hc : B.err c = He.ga K x) (hfl : B.fld c = f) (hg : mg x = some (.ref (He.ga K x)))
    (F : FunD K name qual params body scope [] [] (He.fAd K (x, some "__init__")) fd) (S : FnScope N ps scope) (hN : N.length = 2) (hp : ps.length = 2) (hb : Binds K fd ps [])
    (b1 : ∀ (CX : CXT) (cdv : Value) (A : Around) (outer : List Env) (s : Shared) (H : Hp) (E : XK), PSs (cxOf CX P w K mg base N qual scope (He.fAd K (x, some "__init__")) cdv A outer s H E) body (tOst K f (tVar 0) (tVar 1)))
    (b2 : ∀ (CX : CXT) (cdv : Value) (A : Around) (outer : List Env) (s : Shared) (H : Hp) (E : XK) (p : Addr × Obj), PSs (L2H.cxH CX P w K mg base N qual scope (He.fAd K (x, some "__init__")) cdv A outer s H E p) body (tOst K f (tVar 0) (tVar 1))) : ErrC P w K mg base B c x := by
  subst hfl
  refine ⟨by rw [hc]; exact hg, hk, by rw [hc]; exact Ef.oex, ⟨_, fd, ps, by rw [hc]; exact Ef.ini, Ef.ty, hb, fun CX => ?_, fun CX => ?_⟩, by rw [hc]; exact Ef.no, by rw [hc]; exact Ef.xf, by rw [hc]; exact Ef.exc⟩
  · rw [hc]; exact init_ok F S Ef.oex Ef.no hN hp b1 CX
  · rw [hc]; exact init_okH F S Ef.oex Ef.no hN hp b2 CX

/-! ### the law's end -/
theorem walk_EB {l : PySem.W.OpenLaw} {n k : Nat} {q : Program} {loose : List Str} {XP : (Str → Option Value) → Heap → Prop} {YP : World → Heap → Prop} {d : DefRec} {x : Str}
    (hn : l.most = some n) (hn2 : n ≤ sizeLine) (hdf : d.params.defaults = []) (hr : Room k callerA)
    (F : ∀ (w : World) (mg : Str → Option Value) (fa : Addr) (h : Heap), YP w h → h.Ns mainGlobals mg → mg d.name = some (.ref fa) →
      ∃ (K : PySem.W.Frag) (fd : FuncData) (sp : Sp), K.In h ∧ (∀ (s : Shared) (u : Value), BindsTo s fd ⟨[u], []⟩ [(x, u)]) ∧
        (∀ (H : Hp) (a : Addr) (ns : List Int), ns.length ≤ n → (∀ z ∈ ns, Builtin.Int.intBits z ≤ 1048576) → Only H → SqL K H a (ns.map V.int) → sp [.ref a] H (fun v _ => v = .bl true) fun _ _ _ => False) ∧
        ∀ base : Heap, K.In base → base.Ns mainGlobals mg → FnOk l.prog w K mg base (L2.CX l.prog w) k fa fd [x] sp) :
    PySem.W.WalkO q loose XP YP l.row.toRowW d [] (fun f vs => PySem.call f vs) := by
  refine Att.attach_callB hn hdf fun w s₀ s₁ mg mb fa o pm cd doc a vs ns G Y ho hd hcd hmg hobj hints hlen hbits hg => ?_
  obtain ⟨K, fd, sp, KX, hb, hsp, hF⟩ := F w mg fa _ Y G.T.g hmg
  exact law_call KX G.T.g G.T.b G.T.builtins G.T.nolimit hg hobj hints (Nat.le_trans hlen hn2) hr hF hb (fun H hO hS => hsp H a ns hlen hbits hO hS) fun H e s' c => by
    obtain ⟨_, _, _, _, _, _, _, _, _, _, _, _, z⟩ := c
    exact z
/-- the law's promise from its mirror -/
theorem law_sp {B : Tab} {H : Hp} {a : Addr} {ns : List Int} {f : List D → AH → Res D} {h' : AH} (hS : SqL B.K H a (ns.map V.int)) (e : f [.fix ns] [] = .ok (.bl true) h') : spD B 1 f [.ref a] H (fun v _ => v = .bl true) fun _ _ _ => False := by
  refine ⟨rfl, [], [], [], [.fix ns], ⟨rfl, List.nodup_nil, fun k c e => by simp at e, fun a ha => by simp at ha⟩, .cons (.fix ?_) .nil, ?_⟩
  · rcases hS with hS | hS
    · exact .inl ⟨by simp, by simp, hS⟩
    · exact .inr hS
  · rw [e]
    intro m' v H' x R r
    cases r
    rfl
end Cb
/-! The Cb layer, part 17: names for the printed texts. -/
namespace Cb
open PySem PySem.Spec PyProof.Rows L2
abbrev tch (o o' : D → D → AH → Res D) (fa fb fc : En → AH → Res D) : En → AH → Res Bool := fun en h => (chn o o' fa fb fc en h).bind asB
abbrev wS (fa : En → AH → Res D) : En → AH → Res Wk := fun en h => (fa en h).bind wkL
abbrev wEn (fa : En → AH → Res D) : En → AH → Res Wk := fun en h => (fa en h).bind wkE
/-- a call with keywords -/
abbrev calKK (n np nk : Nat) (gD : List D → List D → List D) (fn : List D → AH → Res D) (fas fks : En → AH → Res (List D)) : En → AH → Res D :=
  fun en h => (fas en h).bind fun ds h1 => (fks en h1).bind fun zs h2 => bif (ds.length == np && zs.length == nk) && ((gD ds zs).length == n) then fn (gD ds zs) h2 else .stuck
end Cb
/-! The head of a program that opens with imports: boot, imports and top in one kernel run over the heap as a tree. -/
noncomputable section
namespace CbH
open PySem PySem.W PySem.Calls PyProof.Rows HandSHeadRun

/-- the opening (boot and imports) to its end -/
def impF (st : SharedT → Thread → Option (SharedT × Thread)) : Nat → SharedT → Thread → Option SharedT
  | 0, _, _ => none
  | m + 1, s, t => match t.atExitBegin with
    | some [] => some s
    | some (_ :: _) => none
    | none => match st s t with
      | some (s', t') => frS s' fun s' => impF st m s' t'
      | none => none
theorem impF_ok {tb : String → Option Builtin} {p : Program} {w : World} : ∀ {m : Nat} {s s' : SharedT} {t : Thread}, impF (stepT (denote tb) p w) m s t = some s' → importEnds tb p w m s.abs t = some s'.abs
  | 0, _, _, _, h => by cases h
  | m + 1, s, s', t, h => by
    have h : (match t.atExitBegin with
      | some [] => some s
      | some (_ :: _) => none
      | none => match stepT (denote tb) p w s t with
        | some (s', t') => frS s' fun s' => impF (stepT (denote tb) p w) m s' t'
        | none => none) = some s' := h
    unfold importEnds
    cases ht : t.atExitBegin with
    | some l =>
      rw [ht] at h
      cases l with
      | nil => cases h; rfl
      | cons _ _ => cases h
    | none =>
      rw [ht] at h
      have h : (match stepT (denote tb) p w s t with
        | some (s', t') => frS s' fun s' => impF (stepT (denote tb) p w) m s' t'
        | none => none) = some s' := h
      cases hs : stepT (denote tb) p w s t with
      | none => rw [hs] at h; cases h
      | some r =>
        obtain ⟨s2, t2⟩ := r
        rw [hs] at h
        have h : (frS s2 fun s' => impF (stepT (denote tb) p w) m s' t2) = some s' := h
        rw [frS_eq] at h
        have q := impF_ok h
        rw [stepT_spec hs]
        exact q
def startT (p : Program) : SharedT := ⟨.nil, 0, (start p).1.heap.life, (start p).1.gens, (start p).1.drawn, (start p).1.toks, (start p).1.os⟩
theorem startT_abs (p : Program) : (startT p).abs = (start p).1 := rfl
/-- behind the opening, behind the top -/
def endI (stO stP : SharedT → Thread → Option (SharedT × Thread)) (M0 M : Nat) (p : Program) : Option (Shared × SharedT) := match impF stO M0 (startT (opening p)) (start (opening p)).2 with
  | some s0 => (match fenceModules? p s0.abs with
    | some s1 => (match putAll s1.heap.objs.toList .nil 0 with
      | some (t, n) => frNat n fun n0 => (goF stP n0 (s1.heap.nsMap mainGlobals "__annotations__") M ⟨t, n0, s1.heap.life, s1.gens, s1.drawn, s1.toks, s1.os⟩ (topStub p)).map fun s => (s1, s)
      | none => none)
    | none => none)
  | none => none
theorem endI_ok {M0 M : Nat} {p : Program} {w : World} {s1 : Shared} {s : SharedT} (h : endI (stepT (denote treeTable) (opening p) w) (stepT (denote treeTable) p w) M0 M p = some (s1, s)) :
    (importEnds treeTable (opening p) w M0 (start (opening p)).1 (start (opening p)).2).bind (fenceModules? p) = some s1 ∧ topRun treeTable p w s1.heap.objs.size (s1.heap.nsMap mainGlobals "__annotations__") M s1 (topStub p) = some s.abs := by
  unfold endI at h
  cases e0 : impF (stepT (denote treeTable) (opening p) w) M0 (startT (opening p)) (start (opening p)).2 with
  | none => rw [e0] at h; cases h
  | some s0 =>
    rw [e0] at h
    have q0 := impF_ok e0
    rw [startT_abs] at q0
    rw [q0]
    simp only at h
    cases e1 : fenceModules? p s0.abs with
    | none => rw [e1] at h; cases h
    | some s2 =>
      rw [e1] at h
      simp only at h
      cases e2 : putAll s2.heap.objs.toList .nil 0 with
      | none => rw [e2] at h; cases h
      | some r =>
        obtain ⟨t, n⟩ := r
        rw [e2] at h
        simp only at h
        rw [frNat_eq] at h
        obtain ⟨s', hs', he⟩ := Option.map_eq_some_iff.mp h
        obtain ⟨rfl, rfl⟩ := Prod.mk.inj he
        have q := goF_ok hs'
        have eh := putAll_heap e2
        have en : s2.heap.objs.size = n := by rw [← eh]; exact absHeap_size t n _
        have eb : (⟨t, n, s2.heap.life, s2.gens, s2.drawn, s2.toks, s2.os⟩ : SharedT).abs = s2 := by
          show (⟨absHeap t n s2.heap.life, s2.gens, s2.drawn, s2.toks, s2.os⟩ : Shared) = s2
          rw [eh]
        rw [eb] at q
        refine ⟨e1, ?_⟩
        rw [en]
        exact q
def look (p q : Program) (loose : List PySem.Str) (Xt : Shared → Bool) {α : Type} (ob : SharedT → α) (z : Shared × SharedT) := (z.1.heap.isNs mainGlobals && z.1.gens.size == 0, looksF p z.1.heap z.2.abs, seenQ q loose (importedModules p.main.body) Xt z.2.abs, ob z.2)
theorem left_imp {p q : Program} {loose : List PySem.Str} {Xt : Shared → Bool} {α : Type} {Yf : Shared → α} {Ya : World → α} {N M0 M : Nat} (l0 : M0 ≤ N) (l1 : M ≤ N)
    (run : ∀ w : World, (endI (stepQ (denQ tabQ) (opening p) w) (stepQ (denQ tabQ) p w) M0 M p).map (look p q loose Xt fun s => Yf s.abs) = some (true, true, openGood q loose, Ya w)) : LeftO p q loose Xt Yf Ya N true := fun w => by
  have r := run w
  rw [← stepQ_eq, ← denQ_eq, ← tabQ_eq] at r
  obtain ⟨⟨s1, s⟩, hs, hv⟩ := Option.map_eq_some_iff.mp r
  have hv : (s1.heap.isNs mainGlobals && s1.gens.size == 0, looksF p s1.heap s.abs, seenQ q loose (importedModules p.main.body) Xt s.abs, Yf s.abs) = (true, true, openGood q loose, Ya w) := hv
  simp only [Prod.mk.injEq] at hv
  obtain ⟨a1, a2, a3, a4⟩ := hv
  obtain ⟨b1, b2⟩ := endI_ok hs
  have b2 := topRun_mono (N - M) _ _ _ _ b2
  rw [show M + (N - M) = N by omega] at b2
  cases hi : importEnds treeTable (opening p) w M0 (start (opening p)).1 (start (opening p)).2 with
  | none => rw [hi] at b1; cases b1
  | some s0 =>
    rw [hi] at b1
    have hi := importEnds_mono (N - M0) _ _ _ _ hi
    rw [show M0 + (N - M0) = N by omega] at hi
    have fo : fencedOpening treeTable p w N = some s1 := by
      unfold fencedOpening
      rw [hi]
      exact b1
    have a2' : (staticsOk (importedModules p.main.body) s1.heap s.abs.heap && namesBound p s.abs.heap && gensDone s.abs && laidKept s1.heap s.abs.heap) = true := a2
    have t : topFrom treeTable p w N s1 = some s.abs := by
      unfold topFrom
      rw [a1]
      show (topRun treeTable p w s1.heap.objs.size (s1.heap.nsMap mainGlobals "__annotations__") N s1 (topStub p)).bind _ = _
      rw [b2]
      show (match staticsOk (importedModules p.main.body) s1.heap s.abs.heap && namesBound p s.abs.heap && gensDone s.abs && laidKept s1.heap s.abs.heap with | true => some s.abs | false => none) = _
      rw [a2']
    unfold openEnds
    rw [fo]
    show (topFrom treeTable p w N s1).map _ = _
    rw [t]
    rw [← seenQ_eq] at a3
    exact congrArg some (Prod.ext a3 a4)
/-- the run's equation at a world -/
def RunI (r : OpenRow) (q : Program) (H : Hook) (ob : SharedT → H.α) (M0 M : Nat) (loose : List PySem.Str) (w : World) : Prop :=
  (endI (stepQ (denQ tabQ) (opening r.prog) w) (stepQ (denQ tabQ) r.prog w) M0 M r.prog).map (look r.prog q loose (fun s => xlAt q [] s && recOk r.toRowW.records s) ob) = some (true, true, openGood q loose, H.val w)
theorem head_imp {r : OpenRow} {q : Program} {H : Hook} {ob : SharedT → H.α} {M0 M : Nat} {loose : List PySem.Str} {d : DefRec} {kwd : List (PySem.Str × PySem.Expr)} (ho : ∀ s : SharedT, ob s = H.obs s.abs) (run : ∀ w, RunI r q H ob M0 M loose w)
    (hdef : defOf q r.name = some (d, kwd)) (hp : r.prog.theDef r.name = some (d.params, d.body, d.scope)) (hk : kwWritten? d.params.kwonlyargs d.params.kw_defaults = some kwd)
    (hwr : (!r.writes || r.records.isEmpty) = true) (k1 : r.wellSaid = true) (ok : (chainsOk q && opensWell r.prog && (frees r.toRowW && r.within.isEmpty)) = true) (hb : r.prog.bare) (hw : r.toRowW.promised)
    (call : WalkO q loose (XL q []) H.says r.toRowW d kwd fun f vs => PySem.call f vs) : r.Holds := by
  have eo : ob = fun s => H.obs s.abs := funext ho
  have left : LeftO r.prog q loose (fun s => xlAt q [] s && recOk r.toRowW.records s) H.obs H.val (M0 + M) true := left_imp (M0 := M0) (M := M) (Nat.le_add_right _ _) (Nat.le_add_left _ _) fun w => by
    have z := run w
    unfold RunI at z
    rw [eo] at z
    exact z
  exact holds_open (r := r) (q := q) (loose := loose) (XP := XL q []) (YP := H.says) (d := d) (kwd := kwd) left H.of H.keeps (fun s z => xl_of s (Bool.and_eq_true_iff.mp z).1) XL.keeps hdef hp hk (fun s z => recFacts_of (Bool.and_eq_true_iff.mp z).2) hwr k1 ok hb hw call
end CbH
namespace Sh
open PySem PySem.Spec PyProof.Rows L2 Cb
abbrev Nis_whole : List Str := ["value"]
abbrev pis_whole : List Str := ["value"]
noncomputable def mis_whole : En → AH → RS := (sRet (vand (una (isi .int) (var 0)) (una vnot (una (isi .bl) (var 0)))))
noncomputable def Fis_whole : List D → AH → Res D := fnm sel0 1 mis_whole
abbrev Nx_ratios_lowest : List Str := ["top", "bottom", "common"]
abbrev px_ratios_lowest : List Str := ["top", "bottom"]
noncomputable def mx_ratios_lowest : En → AH → RS := (seq (sSet 2 (dsp bGcd (acons (var 0) (acons (var 1) anil))))
  (seq (sIf (tcm dLt (var 1) (cI 0)) (sSet 2 (una dNeg (var 2))) skip)
  (sRet (dsp mkT (acons (bin dFdiv (var 0) (var 2)) (acons (bin dFdiv (var 1) (var 2)) anil))))))
noncomputable def Fx_ratios_lowest : List D → AH → Res D := fnm sel0 3 mx_ratios_lowest
abbrev Nfraction_of : List Str := ["value", "name", "top", "bottom"]
abbrev pfraction_of : List Str := ["value", "name"]
noncomputable def mfraction_of : En → AH → RS := (seq (sIf (tst (cal [] 1 Fis_whole (acons (var 0) anil))) (sRet (dsp mkT (acons (var 0) (acons (cI 1) anil)))) skip)
  (seq (sIf (tor (tnot (tst (una (isi2 .tup .lst) (var 0)))) (tcm dNe (dsp bLen (acons (var 0) anil)) (cI 2))) (sRaise 1 (var 1)) skip)
  (seq (sAsg (gT 2 (gs1 (gN 2) (gs1 (gN 3) gs0))) (var 0))
  (seq (sIf (tor (tnot (tst (cal [] 1 Fis_whole (acons (var 2) anil)))) (tor (tnot (tst (cal [] 1 Fis_whole (acons (var 3) anil)))) (tcm dLt (var 3) (cI 1)))) (sRaise 1 (var 1)) skip)
  (sRet (cal [] 2 Fx_ratios_lowest (acons (var 2) (acons (var 3) anil))))))))
noncomputable def Ffraction_of : List D → AH → Res D := fnm sel0 4 mfraction_of
abbrev Nadded : List Str := ["a", "b", "p", "d", "q", "e"]
abbrev padded : List Str := ["a", "b"]
noncomputable def madded : En → AH → RS := (seq (sAsg (gT 2 (gs1 (gN 2) (gs1 (gN 3) gs0))) (cal [] 2 Ffraction_of (acons (var 0) (acons (cS "a") anil))))
  (seq (sAsg (gT 2 (gs1 (gN 4) (gs1 (gN 5) gs0))) (cal [] 2 Ffraction_of (acons (var 1) (acons (cS "b") anil))))
  (sRet (cal [] 2 Fx_ratios_lowest (acons (bin dAdd (bin dMul (var 2) (var 5)) (bin dMul (var 4) (var 3))) (acons (bin dMul (var 3) (var 5)) anil))))))
noncomputable def Fadded : List D → AH → Res D := fnm sel0 6 madded
abbrev Ntimes : List Str := ["a", "b", "p", "d", "q", "e"]
abbrev ptimes : List Str := ["a", "b"]
noncomputable def mtimes : En → AH → RS := (seq (sAsg (gT 2 (gs1 (gN 2) (gs1 (gN 3) gs0))) (cal [] 2 Ffraction_of (acons (var 0) (acons (cS "a") anil))))
  (seq (sAsg (gT 2 (gs1 (gN 4) (gs1 (gN 5) gs0))) (cal [] 2 Ffraction_of (acons (var 1) (acons (cS "b") anil))))
  (sRet (cal [] 2 Fx_ratios_lowest (acons (bin dMul (var 2) (var 4)) (acons (bin dMul (var 3) (var 5)) anil))))))
noncomputable def Ftimes : List D → AH → Res D := fnm sel0 6 mtimes
abbrev Ncompare : List Str := ["a", "b", "gap", "p", "d", "q", "e"]
abbrev pcompare : List Str := ["a", "b"]
noncomputable def mcompare : En → AH → RS := (seq (sAsg (gT 2 (gs1 (gN 3) (gs1 (gN 4) gs0))) (cal [] 2 Ffraction_of (acons (var 0) (acons (cS "a") anil))))
  (seq (sAsg (gT 2 (gs1 (gN 5) (gs1 (gN 6) gs0))) (cal [] 2 Ffraction_of (acons (var 1) (acons (cS "b") anil))))
  (seq (sSet 2 (bin dSub (bin dMul (var 3) (var 6)) (bin dMul (var 5) (var 4))))
  (seq (sIf (tcm dEq (var 2) (cI 0)) (sRet (cI 0)) skip)
  (sRet (vif (tcm dGt (var 2) (cI 0)) (cI 1) (una dNeg (cI 1))))))))
noncomputable def Fcompare : List D → AH → Res D := fnm sel0 7 mcompare
abbrev Nx_lots_size : List Str := ["size"]
abbrev px_lots_size : List Str := ["size"]
noncomputable def mx_lots_size : En → AH → RS := (sIf (tor (tnot (tst (cal [] 1 Fis_whole (acons (var 0) anil)))) (tnot (tch dLe dLe (cI 1) (var 0) (cI 12)))) (sRaise 0 (cS "size")) skip)
noncomputable def Fx_lots_size : List D → AH → Res D := fnm sel0 1 mx_lots_size
abbrev Nlot_from : List Str := ["number", "place"]
abbrev plot_from : List Str := ["number"]
noncomputable def mlot_from : En → AH → RS := (sRet (dsp bTup (acons (lcF [1] (wkR1 (una dBits (var 0))) (gN 1) (tst (bin dAnd (bin dShr (var 0) (var 1)) (cI 1))) (var 1)) anil)))
noncomputable def Flot_from : List D → AH → Res D := fnm sel0 2 mlot_from
abbrev Nall_lots : List Str := ["size", "number"]
abbrev pall_lots : List Str := ["size"]
noncomputable def mall_lots : En → AH → RS := (seq (sExpr (cal [] 1 Fx_lots_size (acons (var 0) anil)))
  (sRet (dsp bTup (acons (lcF [1] (wkR1 (bin dShl (cI 1) (var 0))) (gN 1) tyes (cal [] 1 Flot_from (acons (var 1) anil))) anil))))
noncomputable def Fall_lots : List D → AH → Res D := fnm sel0 2 mall_lots
abbrev Ncheck_blocks : List Str := ["blocks", "size", "times_found", "block", "place"]
abbrev pcheck_blocks : List Str := ["blocks", "size"]
noncomputable def mcheck_blocks : En → AH → RS := (seq (sIf (tor (tnot (tst (cal [] 1 Fis_whole (acons (var 1) anil)))) (tnot (tch dLe dLe (cI 2) (var 1) (cI 6)))) (sRaise 0 (cS "size")) skip)
  (seq (sIf (tnot (tst (una (isi2 .tup .lst) (var 0)))) (sRaise 7 (una dNeg (cI 1))) skip)
  (seq (sSet 2 (bin dMulC (dsp mkF (acons (cI 0) anil)) (var 1)))
  (seq (sFor (wS (var 0)) (gN 3) (seq (sIf (tor (tnot (tst (una (isi2 .tup .lst) (var 3)))) (tnot (tst (var 3)))) (sRaise 7 (una dNeg (cI 1))) skip)
  (sFor (wS (var 3)) (gN 4) (seq (sIf (tor (tnot (tst (cal [] 1 Fis_whole (acons (var 4) anil)))) (tnot (tch dLe dLt (cI 0) (var 4) (var 1)))) (sRaise 7 (una dNeg (cI 1))) skip)
  (sAugS dAddI (var 2) (var 4) (cI 1))))))
  (seq (sFor (wkR1 (var 1)) (gN 4) (sIf (tcm dNe (bin ixD (var 2) (var 4)) (cI 1)) (sRaise 7 (var 4)) skip))
  (sRet (dsp bTup (acons (lcF [3] (wS (var 0)) (gN 3) tyes (dsp bTup (acons (dsp (bSort mkF) (acons (var 3) anil)) anil))) anil))))))))
noncomputable def Fcheck_blocks : List D → AH → Res D := fnm sel0 5 mcheck_blocks
abbrev Nx_prizes_entries : List Str := ["value", "made", "at", "entry"]
abbrev px_prizes_entries : List Str := ["value"]
noncomputable def mx_prizes_entries : En → AH → RS := (seq (sSet 1 (dsp mkC anil))
  (seq (sFor (wEn (var 0)) (gT 2 (gs1 (gN 2) (gs1 (gN 3) gs0))) (sTryFrom 1 2 (sExpr (met1 oApp (var 1) (cal [] 2 Ffraction_of (acons (var 3) (acons (cS "prize") anil))))) (var 2)))
  (sRet (dsp bTup (acons (var 1) anil)))))
noncomputable def Fx_prizes_entries : List D → AH → Res D := fnm sel0 4 mx_prizes_entries
abbrev Nstop_size : List Str := ["size"]
abbrev pstop_size : List Str := ["size"]
noncomputable def mstop_size : En → AH → RS := (sIf (tor (tnot (tst (cal [] 1 Fis_whole (acons (var 0) anil)))) (tnot (tch dLe dLe (cI 2) (var 0) (cI 6)))) (sRaise 0 (cS "size")) skip)
noncomputable def Fstop_size : List D → AH → Res D := fnm sel0 1 mstop_size
abbrev Nprize_of : List Str := ["value", "size"]
abbrev pprize_of : List Str := ["value", "size"]
noncomputable def mprize_of : En → AH → RS := (seq (sExpr (cal [] 1 Fstop_size (acons (var 1) anil)))
  (seq (sIf (tor (tnot (tst (una (isi2 .tup .lst) (var 0)))) (tcm dNe (dsp bLen (acons (var 0) anil)) (bin dShl (cI 1) (var 1)))) (sRaise 2 (una dNeg (cI 1))) skip)
  (sRet (cal [] 1 Fx_prizes_entries (acons (var 0) anil)))))
noncomputable def Fprize_of : List D → AH → Res D := fnm sel0 2 mprize_of
abbrev Namounts_of : List Str := ["value"]
abbrev pamounts_of : List Str := ["value"]
noncomputable def mamounts_of : En → AH → RS := (seq (sIf (tor (tnot (tst (una (isi2 .tup .lst) (var 0)))) (tnot (tch dLe dLe (cI 3) (dsp bLen (acons (var 0) anil)) (cI 7)))) (sRaise 2 (una dNeg (cI 1))) skip)
  (sRet (cal [] 1 Fx_prizes_entries (acons (var 0) anil))))
noncomputable def Famounts_of : List D → AH → Res D := fnm sel0 1 mamounts_of
abbrev Nby_number : List Str := ["amounts", "row", "lot"]
abbrev pby_number : List Str := ["amounts"]
noncomputable def mby_number : En → AH → RS := (seq (sSet 1 (cal [] 1 Famounts_of (acons (var 0) anil)))
  (sRet (dsp bTup (acons (lcF [2] (wS (cal [] 1 Fall_lots (acons (bin dSub (dsp bLen (acons (var 1) anil)) (cI 1)) anil))) (gN 2) tyes (bin ixD (var 1) (dsp bLen (acons (var 2) anil)))) anil))))
noncomputable def Fby_number : List D → AH → Res D := fnm sel0 3 mby_number
abbrev Nprize_sum : List Str := ["size", "first", "second", "factor", "one", "two", "many", "x", "y"]
abbrev pprize_sum : List Str := ["size", "first", "second", "factor"]
noncomputable def mprize_sum : En → AH → RS := (seq (sSet 4 (cal [] 2 Fprize_of (acons (var 1) (acons (var 0) anil))))
  (seq (sSet 5 (cal [] 2 Fprize_of (acons (var 2) (acons (var 0) anil))))
  (seq (sSet 6 (cal [] 2 Ffraction_of (acons (var 3) (acons (cS "factor") anil))))
  (sRet (dsp bTup (acons (lcF [7, 8] (wkZ (var 4) (var 5)) (gT 2 (gs1 (gN 7) (gs1 (gN 8) gs0))) tyes (cal [] 2 Fadded (acons (cal [] 2 Ftimes (acons (var 6) (acons (var 7) anil))) (acons (var 8) anil)))) anil))))))
noncomputable def Fprize_sum : List D → AH → Res D := fnm sel0 9 mprize_sum
abbrev Nrising_break : List Str := ["prize", "size", "row", "number", "place"]
abbrev prising_break : List Str := ["prize", "size"]
noncomputable def mrising_break : En → AH → RS := (seq (sSet 2 (cal [] 2 Fprize_of (acons (var 0) (acons (var 1) anil))))
  (seq (sFor (wkR1 (bin dShl (cI 1) (var 1))) (gN 3) (sFor (wkR1 (var 1)) (gN 4) (seq (sIf (tst (bin dAnd (bin dShr (var 3) (var 4)) (cI 1))) cCont skip)
  (sIf (tcm dLt (cal [] 2 Fcompare (acons (bin ixD (var 2) (bin dOr (var 3) (bin dShl (cI 1) (var 4)))) (acons (bin ixD (var 2) (var 3)) anil))) (cI 0)) (sRet (dsp mkT (acons (cal [] 1 Flot_from (acons (var 3) anil)) (acons (var 4) anil)))) skip))))
  (sRet cN)))
noncomputable def Frising_break : List D → AH → Res D := fnm sel0 5 mrising_break
abbrev Ncounts_of : List Str := ["blocks", "number", "block", "place"]
abbrev pcounts_of : List Str := ["blocks", "number"]
noncomputable def mcounts_of : En → AH → RS := (sRet (dsp bTup (acons (lcF [2] (wS (var 0)) (gN 2) tyes (dsp bSum (acons (lcF [3] (wS (var 2)) (gN 3) tyes (bin dAnd (bin dShr (var 1) (var 3)) (cI 1))) anil))) anil)))
noncomputable def Fcounts_of : List D → AH → Res D := fnm sel0 4 mcounts_of
abbrev Ncounts_break : List Str := ["prize", "blocks", "size", "row", "told", "firsts", "number", "first"]
abbrev pcounts_break : List Str := ["prize", "blocks", "size"]
noncomputable def mcounts_break : En → AH → RS := (seq (sSet 3 (cal [] 2 Fprize_of (acons (var 0) (acons (var 2) anil))))
  (seq (sSet 4 (cal [] 2 Fcheck_blocks (acons (var 1) (acons (var 2) anil))))
  (seq (sSet 5 mkDT)
  (seq (sFor (wkR1 (bin dShl (cI 1) (var 2))) (gN 6) (seq (sSet 7 (dSetT (var 5) (cal [] 2 Fcounts_of (acons (var 4) (acons (var 6) anil))) (var 6)))
  (sIf (tcm dNe (bin ixD (var 3) (var 6)) (bin ixD (var 3) (var 7))) (sRet (dsp mkT (acons (cal [] 1 Flot_from (acons (var 7) anil)) (acons (cal [] 1 Flot_from (acons (var 6) anil)) anil)))) skip)))
  (sRet cN)))))
noncomputable def Fcounts_break : List D → AH → Res D := fnm sel0 8 mcounts_break
abbrev Nx_law_pool : List Str := ["script", "pool", "at", "cell", "turn", "mixed"]
abbrev px_law_pool : List Str := ["script"]
noncomputable def mx_law_pool : En → AH → RS := (seq (sSet 1 (dsp mkC anil))
  (seq (sFor (wkR1 (dsp bMin2 (acons (cI 63) (acons (dsp bLen (acons (var 0) anil)) anil)))) (gN 2) (seq (sSet 3 (dsp bInt (acons (bin ixD (var 0) (var 2)) anil)))
  (seq (sIf (tcm dLt (var 3) (cI 0)) (sSet 3 (bin dSub (cI 1) (bin dMul (cI 2) (var 3)))) skip)
  (sIf (tcm dGe (var 3) (bin dPow (cI 10) (cI 18))) (sFor (wkR1 (cI 50)) (gN 4) (sIf (tcm dGt (var 3) (cI 0)) (seq (sExpr (met1 oApp (var 1) (bin dMod (dsp bInt (acons (var 3) anil)) (cI 30))))
  (sSet 3 (bin dFdiv (var 3) (cI 30)))) skip)) (seq (sSet 5 (bin dMod (dsp bInt (acons (bin dAdd (bin dAdd (bin dMul (var 3) (cI 39373)) (bin dMul (var 2) (cI 10007))) (cI 17)) anil)) (cI 1000003)))
  (sFor (wkR1 (cI 6)) (gN 4) (seq (sSet 5 (bin dMod (dsp bInt (acons (bin dAdd (bin dAdd (bin dMul (var 5) (var 5)) (bin dMul (bin dAdd (var 4) (cI 3)) (cI 7919))) (var 3)) anil)) (cI 1000033)))
  (seq (sSet 5 (bin dMod (dsp bInt (acons (bin dAdd (bin dAdd (bin dMul (var 5) (cI 40014)) (var 2)) (var 4)) anil)) (cI 1000037)))
  (sExpr (met1 oApp (var 1) (bin dFdiv (var 5) (cI 5))))))))))))
  (seq (sExpr (met0 oRev (var 1)))
  (sRet (var 1)))))
noncomputable def Fx_law_pool : List D → AH → Res D := fnm sel1 6 mx_law_pool
abbrev Nx_law_pick : List Str := ["pool", "many"]
abbrev px_law_pick : List Str := ["pool", "many"]
noncomputable def mx_law_pick : En → AH → RS := (seq (sIf (tcm dEq (dsp bLen (acons (var 0) anil)) (cI 0)) (sRet (cI 0)) skip)
  (sRet (bin dMod (dsp bInt (acons (met0 oPop (var 0)) anil)) (var 1))))
noncomputable def Fx_law_pick : List D → AH → Res D := fnm sel0 2 mx_law_pick
abbrev Nx_law_size : List Str := ["pool", "most"]
abbrev px_law_size : List Str := ["pool", "most"]
noncomputable def mx_law_size : En → AH → RS := (sRet (dsp bMin2 (acons (var 1) (acons (bin ixD (dsp mkF (acons (cI 3) (acons (cI 2) (acons (cI 3) (acons (cI 4) (acons (cI 3) (acons (cI 4) (acons (cI 5) (acons (cI 3) anil))))))))) (cal [] 2 Fx_law_pick (acons (var 0) (acons (cI 8) anil)))) anil))))
noncomputable def Fx_law_size : List D → AH → Res D := fnm sel0 2 mx_law_size
abbrev Nx_law_lots : List Str := ["size", "lots", "place", "lot"]
abbrev px_law_lots : List Str := ["size"]
noncomputable def mx_law_lots : En → AH → RS := (seq (sSet 1 (dsp mkF (acons (dsp mkF anil) anil)))
  (seq (sFor (wkR1 (var 0)) (gN 2) (sSet 1 (bin dAdd (var 1) (lcF [3] (wS (var 1)) (gN 3) tyes (bin dAdd (var 3) (dsp mkF (acons (var 2) anil)))))))
  (sRet (var 1))))
noncomputable def Fx_law_lots : List D → AH → Res D := fnm sel0 4 mx_law_lots
abbrev Nx_law_number : List Str := ["lot", "number", "place"]
abbrev px_law_number : List Str := ["lot"]
noncomputable def mx_law_number : En → AH → RS := (seq (sSet 1 (cI 0))
  (seq (sFor (wS (var 0)) (gN 2) (sSet 1 (bin dAdd (var 1) (bin ixD (dsp mkF (acons (cI 1) (acons (cI 2) (acons (cI 4) (acons (cI 8) (acons (cI 16) (acons (cI 32) anil))))))) (var 2)))))
  (sRet (var 1))))
noncomputable def Fx_law_number : List D → AH → Res D := fnm sel0 3 mx_law_number
abbrev Nx_law_gcd : List Str := ["one", "other", "turn", "rest"]
abbrev px_law_gcd : List Str := ["one", "other"]
noncomputable def mx_law_gcd : En → AH → RS := (seq (sSet 0 (dsp bAbs (acons (var 0) anil)))
  (seq (sSet 1 (dsp bAbs (acons (var 1) anil)))
  (seq (sFor (wkR1 (bin dAdd (bin dMul (cI 2) (dsp bMax2 (acons (una dBits (var 0)) (acons (una dBits (var 1)) anil)))) (cI 4))) (gN 2) (sIf (tcm dGt (var 1) (cI 0)) (seq (sSet 3 (bin dMod (dsp bInt (acons (var 0) anil)) (var 1)))
  (seq (sSet 0 (var 1))
  (sSet 1 (var 3)))) skip))
  (sRet (var 0)))))
noncomputable def Fx_law_gcd : List D → AH → Res D := fnm sel0 4 mx_law_gcd
abbrev Nx_law_int : List Str := ["value"]
abbrev px_law_int : List Str := ["value"]
noncomputable def mx_law_int : En → AH → RS := (sRet (vand (una (isi .int) (var 0)) (una vnot (una (isi .bl) (var 0)))))
noncomputable def Fx_law_int : List D → AH → Res D := fnm sel0 1 mx_law_int
abbrev Nx_law_right : List Str := ["value"]
abbrev px_law_right : List Str := ["value"]
noncomputable def mx_law_right : En → AH → RS := (seq (sIf (tor (tnot (tst (una (isi .tup) (var 0)))) (tcm dNe (dsp bLen (acons (var 0) anil)) (cI 2))) (sRet (cB false)) skip)
  (seq (sIf (tor (tnot (tst (cal [] 1 Fx_law_int (acons (bin ixD (var 0) (cI 0)) anil)))) (tor (tnot (tst (cal [] 1 Fx_law_int (acons (bin ixD (var 0) (cI 1)) anil)))) (tcm dLt (bin ixD (var 0) (cI 1)) (cI 1)))) (sRet (cB false)) skip)
  (sRet (bin dEq (cal [] 2 Fx_law_gcd (acons (bin ixD (var 0) (cI 0)) (acons (bin ixD (var 0) (cI 1)) anil))) (cI 1)))))
noncomputable def Fx_law_right : List D → AH → Res D := fnm sel0 1 mx_law_right
abbrev Nx_law_low : List Str := ["top", "bottom", "part"]
abbrev px_law_low : List Str := ["top", "bottom"]
noncomputable def mx_law_low : En → AH → RS := (seq (sIf (tcm dLt (var 1) (cI 0)) (seq (sSet 0 (una dNeg (var 0)))
  (sSet 1 (una dNeg (var 1)))) skip)
  (seq (sSet 2 (dsp bMax2 (acons (cI 1) (acons (cal [] 2 Fx_law_gcd (acons (var 0) (acons (var 1) anil))) anil))))
  (sRet (dsp mkT (acons (bin dFdiv (var 0) (var 2)) (acons (bin dFdiv (var 1) (var 2)) anil))))))
noncomputable def Fx_law_low : List D → AH → Res D := fnm sel0 3 mx_law_low
abbrev Nx_law_sum : List Str := ["one", "other"]
abbrev px_law_sum : List Str := ["one", "other"]
noncomputable def mx_law_sum : En → AH → RS := (sRet (cal [] 2 Fx_law_low (acons (bin dAdd (bin dMul (bin ixD (var 0) (cI 0)) (bin ixD (var 1) (cI 1))) (bin dMul (bin ixD (var 1) (cI 0)) (bin ixD (var 0) (cI 1)))) (acons (bin dMul (bin ixD (var 0) (cI 1)) (bin ixD (var 1) (cI 1))) anil))))
noncomputable def Fx_law_sum : List D → AH → Res D := fnm sel0 2 mx_law_sum
abbrev Nx_law_mul : List Str := ["one", "other"]
abbrev px_law_mul : List Str := ["one", "other"]
noncomputable def mx_law_mul : En → AH → RS := (sRet (cal [] 2 Fx_law_low (acons (bin dMul (bin ixD (var 0) (cI 0)) (bin ixD (var 1) (cI 0))) (acons (bin dMul (bin ixD (var 0) (cI 1)) (bin ixD (var 1) (cI 1))) anil))))
noncomputable def Fx_law_mul : List D → AH → Res D := fnm sel0 2 mx_law_mul
abbrev Nx_law_row_right : List Str := ["row", "many", "value"]
abbrev px_law_row_right : List Str := ["row", "many"]
noncomputable def mx_law_row_right : En → AH → RS := (seq (sIf (tor (tnot (tst (una (isi .tup) (var 0)))) (tcm dNe (dsp bLen (acons (var 0) anil)) (var 1))) (sRet (cB false)) skip)
  (seq (sFor (wS (var 0)) (gN 2) (sIf (tnot (tst (cal [] 1 Fx_law_right (acons (var 2) anil)))) (sRet (cB false)) skip))
  (sRet (cB true))))
noncomputable def Fx_law_row_right : List D → AH → Res D := fnm sel0 3 mx_law_row_right
abbrev Nx_law_under : List Str := ["one", "other"]
abbrev px_law_under : List Str := ["one", "other"]
noncomputable def mx_law_under : En → AH → RS := (sRet (bin dLt (bin dMul (bin ixD (var 0) (cI 0)) (bin ixD (var 1) (cI 1))) (bin dMul (bin ixD (var 1) (cI 0)) (bin ixD (var 0) (cI 1)))))
noncomputable def Fx_law_under : List D → AH → Res D := fnm sel0 2 mx_law_under
abbrev Nx_law_prize : List Str := ["pool", "size", "word", "row", "number", "one", "top", "bottom"]
abbrev px_law_prize : List Str := ["pool", "size"]
noncomputable def mx_law_prize : En → AH → RS := (seq (sSet 2 (cal [] 2 Fx_law_pick (acons (var 0) (acons (cI 6) anil))))
  (seq (sSet 3 (dsp mkC anil))
  (seq (sFor (wkR1 (dsp bLen (acons (cal [] 1 Fx_law_lots (acons (var 1) anil)) anil))) (gN 4) (seq (sSet 5 (cal [] 2 Fx_law_pick (acons (var 0) (acons (cI 30) anil))))
  (seq (sSet 6 (bin ixD (dsp mkF (acons (cI 0) (acons (cI 4) (acons (cI 1) (acons (cI 6) (acons (cI 2) (acons (cI 0) (acons (cI 3) (acons (cI 9) anil))))))))) (bin dMod (dsp bInt (acons (bin dAdd (var 5) (var 4)) anil)) (cI 8))))
  (seq (sSet 7 (cI 1))
  (seq (sIf (tcm dEq (var 2) (cI 1)) (sSet 7 (bin dAdd (cI 1) (bin dMod (dsp bInt (acons (var 5) anil)) (cI 4)))) (sIf (tcm dEq (var 2) (cI 2)) (sSet 6 (bin ixD (dsp mkF (acons (una dNeg (cI 7)) (acons (cI 0) (acons (cI 5) (acons (una dNeg (cI 2)) (acons (cI 11) anil)))))) (bin dMod (dsp bInt (acons (bin dAdd (var 5) (var 4)) anil)) (cI 5)))) (sIf (tcm dEq (var 2) (cI 3)) (sSet 6 (bin dAdd (bin dMul (var 6) (bin dPow (cI 10) (cI 12))) (var 5))) (sIf (tcm dEq (var 2) (cI 4)) (sSet 6 (bin ixD (dsp mkF (acons (cI 0) (acons (cI 0) (acons (cI 0) (acons (cI 12) anil))))) (bin dMod (dsp bInt (acons (var 5) anil)) (cI 4)))) skip))))
  (sExpr (met1 oApp (var 3) (cal [] 2 Fx_law_low (acons (var 6) (acons (var 7) anil))))))))))
  (sRet (var 3)))))
noncomputable def Fx_law_prize : List D → AH → Res D := fnm sel1 8 mx_law_prize
abbrev Nx_law_hand : List Str := ["row", "told", "at", "entry"]
abbrev px_law_hand : List Str := ["row"]
noncomputable def mx_law_hand : En → AH → RS := (seq (sSet 1 (dsp mkC anil))
  (seq (sFor (wkR1 (dsp bLen (acons (var 0) anil))) (gN 2) (seq (sSet 3 (bin ixD (var 0) (var 2)))
  (sIf (tand (tcm dEq (bin ixD (var 3) (cI 1)) (cI 1)) (tcm dEq (bin dMod (dsp bInt (acons (var 2) anil)) (cI 2)) (cI 1))) (sExpr (met1 oApp (var 1) (bin ixD (var 3) (cI 0)))) (sExpr (met1 oApp (var 1) (dsp mkF (acons (bin dMul (cI 3) (bin ixD (var 3) (cI 0))) (acons (bin dMul (cI 3) (bin ixD (var 3) (cI 1))) anil))))))))
  (sRet (var 1))))
noncomputable def Fx_law_hand : List D → AH → Res D := fnm sel0 4 mx_law_hand
abbrev Nx_law_some_blocks : List Str := ["pool", "size", "blocks", "place", "at", "block"]
abbrev px_law_some_blocks : List Str := ["pool", "size"]
noncomputable def mx_law_some_blocks : En → AH → RS := (seq (sSet 2 (dsp mkF (acons (dsp mkC (acons (cI 0) anil)) anil)))
  (seq (sFor (wkR2 (cI 1) (var 1)) (gN 3) (seq (sSet 4 (cal [] 2 Fx_law_pick (acons (var 0) (acons (cI 3) anil))))
  (sIf (tcm dEq (var 4) (cI 2)) (sSet 2 (bin dAdd (var 2) (dsp mkF (acons (dsp mkC (acons (var 3) anil)) anil)))) (seq (sSet 5 (bin ixD (var 2) (bin dMod (dsp bInt (acons (var 4) anil)) (dsp bLen (acons (var 2) anil)))))
  (sExpr (met1 oApp (var 5) (var 3)))))))
  (sRet (var 2))))
noncomputable def Fx_law_some_blocks : List D → AH → Res D := fnm sel0 6 mx_law_some_blocks
abbrev Nx_law_counted : List Str := ["size", "blocks", "number", "lot", "block", "place"]
abbrev px_law_counted : List Str := ["size", "blocks", "number"]
noncomputable def mx_law_counted : En → AH → RS := (seq (sSet 3 (bin ixD (cal [] 1 Fx_law_lots (acons (var 0) anil)) (var 2)))
  (sRet (dsp bTup (acons (lcF [4] (wS (var 1)) (gN 4) tyes (dsp bLen (acons (lcF [5] (wS (var 4)) (gN 5) (tcm (dIn false) (var 5) (var 3)) (var 5)) anil))) anil))))
noncomputable def Fx_law_counted : List D → AH → Res D := fnm sel0 6 mx_law_counted
abbrev Nx_law_first_alike : List Str := ["size", "blocks", "number", "first"]
abbrev px_law_first_alike : List Str := ["size", "blocks", "number"]
noncomputable def mx_law_first_alike : En → AH → RS := (seq (sFor (wkR1 (bin dAdd (var 2) (cI 1))) (gN 3) (sIf (tcm dEq (cal [] 3 Fx_law_counted (acons (var 0) (acons (var 1) (acons (var 3) anil)))) (cal [] 3 Fx_law_counted (acons (var 0) (acons (var 1) (acons (var 2) anil))))) (sRet (var 3)) skip))
  (sRet (var 2)))
noncomputable def Fx_law_first_alike : List D → AH → Res D := fnm sel0 4 mx_law_first_alike
abbrev Nx_law_refused_k81 : List Str := ["word", "prize", "size", "more", "error", "wrong", "odd", "cut"]
abbrev px_law_refused_k81 : List Str := ["word", "prize", "size", "more"]
noncomputable def mx_law_refused_k81 : En → AH → RS := (seq (sTry [⟨2, 4, "prize", true⟩, ⟨0, 5, "number", true⟩, ⟨1, 6, "fraction", true⟩, ⟨7, 7, "blocks", true⟩] (sIf (tcm dEq (var 0) (cI 0)) (sExpr (cal [] 2 Fprize_of (acons (var 1) (acons (var 2) anil)))) (sIf (tcm dEq (var 0) (cI 1)) (sExpr (cal [] 1 Fby_number (acons (var 1) anil))) (sIf (tcm dEq (var 0) (cI 2)) (sExpr (calKK 4 3 1 (fun us ws => us ++ ws) Fprize_sum (acons (var 2) (acons (var 3) (acons (var 1) anil))) (acons (dsp mkT (acons (cI 1) (acons (cI 0) anil))) anil))) (sIf (tcm dEq (var 0) (cI 3)) (sExpr (cal [] 2 Frising_break (acons (var 1) (acons (var 2) anil)))) (sExpr (cal [] 3 Fcounts_break (acons (var 1) (acons (var 3) (acons (var 2) anil))))))))))
  (sRet (dsp mkT (acons (cS "none") (acons (cI 0) (acons (cB false) anil))))))
noncomputable def Fx_law_refused_k81 : List D → AH → Res D := fnm sel0 8 mx_law_refused_k81
abbrev Nx_law_falls : List Str := ["size", "prize", "number", "place"]
abbrev px_law_falls : List Str := ["size", "prize"]
noncomputable def mx_law_falls : En → AH → RS := (seq (sFor (wkR1 (dsp bLen (acons (var 1) anil))) (gN 2) (sFor (wkR1 (var 0)) (gN 3) (sIf (tcm (dIn true) (var 3) (bin ixD (cal [] 1 Fx_law_lots (acons (var 0) anil)) (var 2))) (sIf (tst (cal [] 2 Fx_law_under (acons (bin ixD (var 1) (bin dAdd (var 2) (cal [] 1 Fx_law_number (acons (dsp mkF (acons (var 3) anil)) anil)))) (acons (bin ixD (var 1) (var 2)) anil)))) (sRet (dsp mkT (acons (dsp bTup (acons (bin ixD (cal [] 1 Fx_law_lots (acons (var 0) anil)) (var 2)) anil)) (acons (var 3) anil)))) skip) skip)))
  (sRet cN))
noncomputable def Fx_law_falls : List D → AH → Res D := fnm sel0 4 mx_law_falls
abbrev Nx_law_uneven : List Str := ["size", "blocks", "prize", "number", "first"]
abbrev px_law_uneven : List Str := ["size", "blocks", "prize"]
noncomputable def mx_law_uneven : En → AH → RS := (seq (sFor (wkR1 (dsp bLen (acons (var 2) anil))) (gN 3) (seq (sSet 4 (cal [] 3 Fx_law_first_alike (acons (var 0) (acons (var 1) (acons (var 3) anil)))))
  (sIf (tcm dNe (bin ixD (var 2) (var 4)) (bin ixD (var 2) (var 3))) (sRet (dsp mkT (acons (dsp bTup (acons (bin ixD (cal [] 1 Fx_law_lots (acons (var 0) anil)) (var 4)) anil)) (acons (dsp bTup (acons (bin ixD (cal [] 1 Fx_law_lots (acons (var 0) anil)) (var 3)) anil)) anil)))) skip)))
  (sRet cN))
noncomputable def Fx_law_uneven : List D → AH → Res D := fnm sel0 5 mx_law_uneven
abbrev Nx_law_doors_k81 : List Str := ["pool", "size", "hand", "at", "bad", "word"]
abbrev px_law_doors_k81 : List Str := ["pool", "size", "hand"]
noncomputable def mx_law_doors_k81 : En → AH → RS := (seq (sSet 3 (cal [] 2 Fx_law_pick (acons (var 0) (acons (dsp bLen (acons (var 2) anil)) anil))))
  (seq (sSet 4 (dsp (bLst mkC) (acons (var 2) anil)))
  (seq (sSto (var 4) (var 3) (bin ixD (dsp mkF (acons (dsp mkT (acons (cI 1) (acons (cI 0) anil))) (acons (cB true) (acons (cS "1") (acons (dsp mkT (acons (cI 1) (acons (cI 2) (acons (cI 3) anil)))) (acons cN anil)))))) (cal [] 2 Fx_law_pick (acons (var 0) (acons (cI 5) anil)))))
  (seq (sSet 5 (bin ixD (dsp mkF (acons (cI 0) (acons (cI 3) anil))) (cal [] 2 Fx_law_pick (acons (var 0) (acons (cI 2) anil)))))
  (seq (sIf (tcm dNe (cal [] 4 Fx_law_refused_k81 (acons (var 5) (acons (var 4) (acons (var 1) (acons (var 2) anil))))) (dsp mkT (acons (cS "prize") (acons (var 3) (acons (cB true) anil))))) (sRet (cB false)) skip)
  (seq (sIf (tcm dNe (cal [] 4 Fx_law_refused_k81 (acons (var 5) (acons (var 4) (acons (bin ixD (dsp mkF (acons (cI 1) (acons (cI 7) (acons (cB true) (acons cN anil))))) (cal [] 2 Fx_law_pick (acons (var 0) (acons (cI 4) anil)))) (acons (var 2) anil))))) (dsp mkT (acons (cS "number") (acons (cS "size") (acons (cB true) anil))))) (sRet (cB false)) skip)
  (seq (sIf (tcm dNe (cal [] 4 Fx_law_refused_k81 (acons (var 5) (acons (slc mkF (var 4) (oS (cI 1)) oN) (acons (var 1) (acons (var 2) anil))))) (dsp mkT (acons (cS "prize") (acons (una dNeg (cI 1)) (acons (cB true) anil))))) (sRet (cB false)) skip)
  (seq (sIf (tcm dNe (cal [] 4 Fx_law_refused_k81 (acons (cI 1) (acons (slc mkF (var 2) oN (oS (cI 2))) (acons (var 1) (acons (var 2) anil))))) (dsp mkT (acons (cS "prize") (acons (una dNeg (cI 1)) (acons (cB true) anil))))) (sRet (cB false)) skip)
  (seq (sIf (tcm dNe (cal [] 4 Fx_law_refused_k81 (acons (cI 1) (acons (dsp mkF (acons (cI 0) (acons (cI 5) (acons cN anil)))) (acons (var 1) (acons (var 2) anil))))) (dsp mkT (acons (cS "prize") (acons (cI 2) (acons (cB true) anil))))) (sRet (cB false)) skip)
  (seq (sIf (tcm dNe (cal [] 4 Fx_law_refused_k81 (acons (cI 2) (acons (var 4) (acons (var 1) (acons (slc mkF (var 2) (oS (cI 1)) oN) anil))))) (dsp mkT (acons (cS "prize") (acons (una dNeg (cI 1)) (acons (cB true) anil))))) (sRet (cB false)) skip)
  (seq (sIf (tcm dNe (cal [] 4 Fx_law_refused_k81 (acons (cI 2) (acons (var 2) (acons (var 1) (acons (var 2) anil))))) (dsp mkT (acons (cS "fraction") (acons (cS "factor") (acons (cB true) anil))))) (sRet (cB false)) skip)
  (seq (sIf (tcm dNe (cal [] 4 Fx_law_refused_k81 (acons (cI 4) (acons (var 4) (acons (var 1) (acons (dsp mkF (acons (dsp mkF (acons (cI 0) anil)) anil)) anil))))) (dsp mkT (acons (cS "prize") (acons (var 3) (acons (cB true) anil))))) (sRet (cB false)) skip)
  (sRet (bin dEq (cal [] 4 Fx_law_refused_k81 (acons (cI 4) (acons (var 2) (acons (var 1) (acons (dsp mkF (acons (dsp mkF (acons (cI 0) anil)) anil)) anil))))) (dsp mkT (acons (cS "blocks") (acons (cI 1) (acons (cB true) anil))))))))))))))))))
noncomputable def Fx_law_doors_k81 : List D → AH → Res D := fnm sel0 6 mx_law_doors_k81
abbrev Nlaw_k81 : List Str := ["script", "pool", "size", "prize", "lots", "blocks", "kind", "at", "hand", "told", "amounts", "made", "number", "factor", "added_v", "plain", "lot"]
abbrev plaw_k81 : List Str := ["script"]
noncomputable def mlaw_k81 : En → AH → RS := (seq (sSet 1 (cal [] 1 Fx_law_pool (acons (var 0) anil)))
  (seq (sSet 2 (cal [] 2 Fx_law_size (acons (var 1) (acons (cI 5) anil))))
  (seq (sSet 3 (cal [] 2 Fx_law_prize (acons (var 1) (acons (var 2) anil))))
  (seq (sSet 4 (cal [] 1 Fx_law_lots (acons (var 2) anil)))
  (seq (sSet 5 (cal [] 2 Fx_law_some_blocks (acons (var 1) (acons (var 2) anil))))
  (seq (sSet 6 (cal [] 2 Fx_law_pick (acons (var 1) (acons (cI 4) anil))))
  (seq (sIf (tcm dEq (var 6) (cI 0)) (sSet 3 (lcC [12] (wkR1 (dsp bLen (acons (var 4) anil))) (gN 12) tyes (bin ixD (var 3) (cal [] 3 Fx_law_first_alike (acons (var 2) (acons (var 5) (acons (var 12) anil))))))) skip)
  (seq (sIf (tcm dEq (var 6) (cI 1)) (sSet 3 (lcC [16] (wS (var 4)) (gN 16) tyes (cal [] 2 Fx_law_sum (acons (bin ixD (var 3) (cI 0)) (acons (dsp mkT (acons (bin dMul (cI 5) (dsp bLen (acons (var 16) anil))) (acons (cI 1) anil))) anil))))) skip)
  (seq (sSet 7 (cal [] 2 Fx_law_pick (acons (var 1) (acons (dsp bLen (acons (var 4) anil)) anil))))
  (seq (sIf (tcm dEq (cal [] 2 Fx_law_pick (acons (var 1) (acons (cI 2) anil))) (cI 1)) (sSto (var 3) (var 7) (cal [] 2 Fx_law_sum (acons (bin ixD (var 3) (var 7)) (acons (dsp mkT (acons (una dNeg (cI 1)) (acons (cI 2) anil))) anil)))) skip)
  (seq (sSet 8 (cal [] 1 Fx_law_hand (acons (var 3) anil)))
  (seq (sSet 9 (cal [] 2 Fprize_of (acons (var 8) (acons (var 2) anil))))
  (seq (sIf (tor (tnot (tst (cal [] 2 Fx_law_row_right (acons (var 9) (acons (dsp bLen (acons (var 4) anil)) anil))))) (tor (tcm dNe (var 9) (dsp bTup (acons (var 3) anil))) (tcm dNe (var 8) (cal [] 1 Fx_law_hand (acons (var 3) anil))))) (sRet (cB false)) skip)
  (seq (sIf (tcm dNe (cal [] 2 Frising_break (acons (cal [] 1 Fx_law_hand (acons (var 3) anil)) (acons (var 2) anil))) (cal [] 2 Fx_law_falls (acons (var 2) (acons (var 3) anil)))) (sRet (cB false)) skip)
  (seq (sIf (tcm dNe (cal [] 3 Fcounts_break (acons (cal [] 1 Fx_law_hand (acons (var 3) anil)) (acons (var 5) (acons (var 2) anil)))) (cal [] 3 Fx_law_uneven (acons (var 2) (acons (var 5) (acons (var 3) anil))))) (sRet (cB false)) skip)
  (seq (sSet 10 (bin dAdd (dsp mkF (acons (bin ixD (var 3) (cI 1)) anil)) (slc mkF (var 3) (oS (cI 1)) (oS (bin dAdd (var 2) (cI 1))))))
  (seq (sSet 11 (cal [] 1 Fby_number (acons (cal [] 1 Fx_law_hand (acons (var 10) anil)) anil)))
  (seq (sIf (tnot (tst (cal [] 2 Fx_law_row_right (acons (var 11) (acons (dsp bLen (acons (var 4) anil)) anil))))) (sRet (cB false)) skip)
  (seq (sFor (wkR1 (dsp bLen (acons (var 4) anil))) (gN 12) (sIf (tcm dNe (bin ixD (var 11) (var 12)) (bin ixD (var 10) (dsp bLen (acons (bin ixD (var 4) (var 12)) anil)))) (sRet (cB false)) skip))
  (seq (sSet 13 (cal [] 2 Fx_law_low (acons (bin ixD (dsp mkF (acons (cI 2) (acons (una dNeg (cI 3)) (acons (cI 0) (acons (cI 5) anil))))) (cal [] 2 Fx_law_pick (acons (var 1) (acons (cI 4) anil)))) (acons (bin dAdd (cI 1) (cal [] 2 Fx_law_pick (acons (var 1) (acons (cI 3) anil)))) anil))))
  (seq (sSet 14 (calKK 4 3 1 (fun us ws => us ++ ws) Fprize_sum (acons (var 2) (acons (cal [] 1 Fx_law_hand (acons (var 3) anil)) (acons (var 11) anil))) (acons (var 13) anil)))
  (seq (sSet 15 (cal [.int 1] 4 Fprize_sum (acons (var 2) (acons (cal [] 1 Fx_law_hand (acons (var 3) anil)) (acons (var 11) anil)))))
  (seq (sIf (tor (tnot (tst (cal [] 2 Fx_law_row_right (acons (var 14) (acons (dsp bLen (acons (var 4) anil)) anil))))) (tnot (tst (cal [] 2 Fx_law_row_right (acons (var 15) (acons (dsp bLen (acons (var 4) anil)) anil)))))) (sRet (cB false)) skip)
  (seq (sFor (wkR1 (dsp bLen (acons (var 4) anil))) (gN 12) (seq (sIf (tcm dNe (bin ixD (var 14) (var 12)) (cal [] 2 Fx_law_sum (acons (cal [] 2 Fx_law_mul (acons (var 13) (acons (bin ixD (var 3) (var 12)) anil))) (acons (bin ixD (var 11) (var 12)) anil)))) (sRet (cB false)) skip)
  (sIf (tcm dNe (bin ixD (var 15) (var 12)) (cal [] 2 Fx_law_sum (acons (bin ixD (var 3) (var 12)) (acons (bin ixD (var 11) (var 12)) anil)))) (sRet (cB false)) skip)))
  (sRet (cal [] 3 Fx_law_doors_k81 (acons (var 1) (acons (var 2) (acons (cal [] 1 Fx_law_hand (acons (var 3) anil)) anil)))))))))))))))))))))))))))))
noncomputable def Flaw_k81 : List D → AH → Res D := fnm sel0 17 mlaw_k81
abbrev Nratio : List Str := ["top", "bottom"]
abbrev pratio : List Str := ["top", "bottom"]
noncomputable def mratio : En → AH → RS := (seq (sIf (tnot (tst (cal [] 1 Fis_whole (acons (var 0) anil)))) (sRaise 0 (cS "top")) skip)
  (seq (sIf (tor (tnot (tst (cal [] 1 Fis_whole (acons (var 1) anil)))) (tcm dEq (var 1) (cI 0))) (sRaise 0 (cS "bottom")) skip)
  (sRet (cal [] 2 Fx_ratios_lowest (acons (var 0) (acons (var 1) anil))))))
noncomputable def Fratio : List D → AH → Res D := fnm sel0 2 mratio
abbrev Nless : List Str := ["a", "b", "p", "d", "q", "e"]
abbrev pless : List Str := ["a", "b"]
noncomputable def mless : En → AH → RS := (seq (sAsg (gT 2 (gs1 (gN 2) (gs1 (gN 3) gs0))) (cal [] 2 Ffraction_of (acons (var 0) (acons (cS "a") anil))))
  (seq (sAsg (gT 2 (gs1 (gN 4) (gs1 (gN 5) gs0))) (cal [] 2 Ffraction_of (acons (var 1) (acons (cS "b") anil))))
  (sRet (cal [] 2 Fx_ratios_lowest (acons (bin dSub (bin dMul (var 2) (var 5)) (bin dMul (var 4) (var 3))) (acons (bin dMul (var 3) (var 5)) anil))))))
noncomputable def Fless : List D → AH → Res D := fnm sel0 6 mless
abbrev Ntotal_of : List Str := ["rows", "entry", "top", "bottom", "p", "d"]
abbrev ptotal_of : List Str := ["rows"]
noncomputable def mtotal_of : En → AH → RS := (seq (sIf (tnot (tst (una (isi2 .tup .lst) (var 0)))) (sRaise 1 (cS "rows")) skip)
  (seq (sPar 2 3 (cI 0) (cI 1))
  (seq (sFor (wS (var 0)) (gN 1) (seq (sAsg (gT 2 (gs1 (gN 4) (gs1 (gN 5) gs0))) (cal [] 2 Ffraction_of (acons (var 1) (acons (cS "rows") anil))))
  (sAsg (gT 2 (gs1 (gN 2) (gs1 (gN 3) gs0))) (cal [] 2 Fx_ratios_lowest (acons (bin dAdd (bin dMul (var 2) (var 5)) (bin dMul (var 4) (var 3))) (acons (bin dMul (var 3) (var 5)) anil))))))
  (sRet (dsp mkT (acons (var 2) (acons (var 3) anil)))))))
noncomputable def Ftotal_of : List D → AH → Res D := fnm sel0 6 mtotal_of
abbrev Nbits_of : List Str := ["lot", "number", "place"]
abbrev pbits_of : List Str := ["lot"]
noncomputable def mbits_of : En → AH → RS := (seq (sSet 1 (cI 0))
  (seq (sFor (wS (var 0)) (gN 2) (sSet 1 (bin dOr (var 1) (bin dShl (cI 1) (var 2)))))
  (sRet (var 1))))
noncomputable def Fbits_of : List D → AH → Res D := fnm sel0 3 mbits_of
abbrev Nlot_of : List Str := ["value", "size", "number", "entry"]
abbrev plot_of : List Str := ["value", "size"]
noncomputable def mlot_of : En → AH → RS := (seq (sExpr (cal [] 1 Fx_lots_size (acons (var 1) anil)))
  (seq (sIf (tnot (tst (una (isi2 .tup .lst) (var 0)))) (sRaise 3 cN) skip)
  (seq (sSet 2 (cI 0))
  (seq (sFor (wS (var 0)) (gN 3) (seq (sIf (tor (tnot (tst (cal [] 1 Fis_whole (acons (var 3) anil)))) (tor (tnot (tch dLe dLt (cI 0) (var 3) (var 1))) (tst (bin dAnd (bin dShr (var 2) (var 3)) (cI 1))))) (sRaise 3 (var 3)) skip)
  (sSet 2 (bin dOr (var 2) (bin dShl (cI 1) (var 3))))))
  (sRet (cal [] 1 Flot_from (acons (var 2) anil)))))))
noncomputable def Flot_of : List D → AH → Res D := fnm sel0 4 mlot_of
abbrev Nx_law_rate : List Str := ["pool", "word"]
abbrev px_law_rate : List Str := ["pool"]
noncomputable def mx_law_rate : En → AH → RS := (seq (sSet 1 (cal [] 2 Fx_law_pick (acons (var 0) (acons (cI 12) anil))))
  (seq (sIf (tcm dEq (var 1) (cI 11)) (sRet (bin dAdd (cI 100) (bin dMul (cI 31) (cal [] 2 Fx_law_pick (acons (var 0) (acons (cI 29) anil)))))) skip)
  (sRet (bin ixD (dsp mkF (acons (cI 1) (acons (cI 2) (acons (cI 1) (acons (cI 3) (acons (cI 1) (acons (cI 5) (acons (cI 2) (acons (cI 7) (acons (cI 9) (acons (cI 4) (acons (cI 1) anil)))))))))))) (var 1)))))
noncomputable def Fx_law_rate : List D → AH → Res D := fnm sel0 2 mx_law_rate
abbrev Nx_law_blank : List Str := ["size", "rows", "place"]
abbrev px_law_blank : List Str := ["size"]
noncomputable def mx_law_blank : En → AH → RS := (seq (sSet 1 (dsp mkC anil))
  (seq (sFor (wkR1 (var 0)) (gN 2) (sExpr (met1 oApp (var 1) (bin dMul (dsp mkC (acons (cI 0) anil)) (var 0)))))
  (sRet (var 1))))
noncomputable def Fx_law_blank : List D → AH → Res D := fnm sel0 3 mx_law_blank
abbrev Nx_law_moved : List Str := ["table", "order", "size", "rows", "i", "j", "row"]
abbrev px_law_moved : List Str := ["table", "order"]
noncomputable def mx_law_moved : En → AH → RS := (seq (sSet 2 (dsp bLen (acons (var 1) anil)))
  (seq (sSet 3 (cal [] 1 Fx_law_blank (acons (var 2) anil)))
  (seq (sFor (wkR1 (var 2)) (gN 4) (sFor (wkR1 (var 2)) (gN 5) (seq (sSet 6 (bin ixD (var 3) (bin ixD (var 1) (var 4))))
  (sSto (var 6) (bin ixD (var 1) (var 5)) (bin ixD (bin ixD (var 0) (var 4)) (var 5))))))
  (sRet (var 3)))))
noncomputable def Fx_law_moved : List D → AH → Res D := fnm sel0 7 mx_law_moved
abbrev Nx_law_both : List Str := ["pool", "takes", "i", "j", "row", "other"]
abbrev px_law_both : List Str := ["pool", "takes", "i", "j"]
noncomputable def mx_law_both : En → AH → RS := (seq (sSet 4 (bin ixD (var 1) (var 2)))
  (seq (sSto (var 4) (var 3) (cal [] 1 Fx_law_rate (acons (var 0) anil)))
  (seq (sSet 5 (bin ixD (var 1) (var 3)))
  (sSto (var 5) (var 2) (cal [] 1 Fx_law_rate (acons (var 0) anil))))))
noncomputable def Fx_law_both : List D → AH → Res D := fnm sel0 6 mx_law_both
abbrev Nx_law_ring : List Str := ["pool", "size", "takes", "i", "row", "j"]
abbrev px_law_ring : List Str := ["pool", "size"]
noncomputable def mx_law_ring : En → AH → RS := (seq (sSet 2 (cal [] 1 Fx_law_blank (acons (var 1) anil)))
  (seq (sFor (wkR1 (var 1)) (gN 3) (seq (sSet 4 (bin ixD (var 2) (var 3)))
  (sFor (wkR1 (var 1)) (gN 5) (sIf (tcm dEq (var 5) (bin dMod (dsp bInt (acons (bin dAdd (var 3) (cI 1)) anil)) (var 1))) (sSto (var 4) (var 5) (cal [] 1 Fx_law_rate (acons (var 0) anil))) (sIf (tand (tcm dNe (var 5) (var 3)) (tcm dEq (cal [] 2 Fx_law_pick (acons (var 0) (acons (cI 4) anil))) (cI 3))) (sSto (var 4) (var 5) (cal [] 1 Fx_law_rate (acons (var 0) anil))) skip)))))
  (sRet (var 2))))
noncomputable def Fx_law_ring : List D → AH → Res D := fnm sel0 6 mx_law_ring
abbrev Nx_law_two_way : List Str := ["pool", "size", "word", "takes", "j", "near", "i"]
abbrev px_law_two_way : List Str := ["pool", "size", "word"]
noncomputable def mx_law_two_way : En → AH → RS := (seq (sSet 3 (cal [] 1 Fx_law_blank (acons (var 1) anil)))
  (seq (sFor (wkR2 (cI 1) (var 1)) (gN 4) (seq (sSet 5 (bin dSub (var 4) (cI 1)))
  (seq (sIf (tcm dEq (var 2) (cI 2)) (sSet 5 (cal [] 2 Fx_law_pick (acons (var 0) (acons (var 4) anil)))) skip)
  (seq (sExpr (cal [] 4 Fx_law_both (acons (var 0) (acons (var 3) (acons (var 5) (acons (var 4) anil))))))
  (sIf (tcm dEq (var 2) (cI 0)) (sFor (wkR1 (bin dSub (var 4) (cI 1))) (gN 6) (sIf (tcm dEq (cal [] 2 Fx_law_pick (acons (var 0) (acons (cI 2) anil))) (cI 1)) (sExpr (cal [] 4 Fx_law_both (acons (var 0) (acons (var 3) (acons (var 6) (acons (var 4) anil)))))) skip)) skip)))))
  (sRet (var 3))))
noncomputable def Fx_law_two_way : List D → AH → Res D := fnm sel0 7 mx_law_two_way
abbrev Nx_law_paced : List Str := ["pool", "size", "takes", "ahead", "behind", "j", "i", "heavy", "speeds", "row", "other"]
abbrev px_law_paced : List Str := ["pool", "size"]
noncomputable def mx_law_paced : En → AH → RS := (seq (sSet 2 (cal [] 1 Fx_law_blank (acons (var 1) anil)))
  (seq (sSet 3 (bin dAdd (cI 1) (cal [] 2 Fx_law_pick (acons (var 0) (acons (cI 4) anil)))))
  (seq (sSet 4 (bin dAdd (cI 1) (cal [] 2 Fx_law_pick (acons (var 0) (acons (cI 4) anil)))))
  (seq (sFor (wkR2 (cI 1) (var 1)) (gN 5) (sFor (wkR1 (var 5)) (gN 6) (sIf (tand (tcm dEq (bin dMod (dsp bInt (acons (bin dSub (var 5) (var 6)) anil)) (cI 2)) (cI 1)) (tor (tcm dEq (var 6) (bin dSub (var 5) (cI 1))) (tcm dEq (cal [] 2 Fx_law_pick (acons (var 0) (acons (cI 2) anil))) (cI 1)))) (seq (sSet 7 (cal [] 1 Fx_law_rate (acons (var 0) anil)))
  (seq (sSet 8 (dsp mkF (acons (var 3) (acons (var 4) anil))))
  (seq (sSet 9 (bin ixD (var 2) (var 6)))
  (seq (sSto (var 9) (var 5) (bin dMul (var 7) (bin ixD (var 8) (bin dMod (dsp bInt (acons (var 6) anil)) (cI 2)))))
  (seq (sSet 10 (bin ixD (var 2) (var 5)))
  (sSto (var 10) (var 6) (bin dMul (var 7) (bin ixD (var 8) (bin dMod (dsp bInt (acons (var 5) anil)) (cI 2)))))))))) skip)))
  (sRet (var 2))))))
noncomputable def Fx_law_paced : List D → AH → Res D := fnm sel0 11 mx_law_paced
abbrev Nx_law_called : List Str := ["size", "calls", "found", "i", "j"]
abbrev px_law_called : List Str := ["size", "calls"]
noncomputable def mx_law_called : En → AH → RS := (seq (sSet 2 (dsp mkF anil))
  (seq (sFor (wkR1 (var 0)) (gN 3) (sSet 2 (bin dAdd (var 2) (lcF [4] (wkR1 (var 0)) (gN 4) (tcm dGt (bin ixD (bin ixD (var 1) (var 3)) (var 4)) (cI 0)) (dsp mkT (acons (var 3) (acons (var 4) anil)))))))
  (sRet (var 2))))
noncomputable def Fx_law_called : List D → AH → Res D := fnm sel0 5 mx_law_called
abbrev Nx_law_some : List Str := ["pool", "takes", "word", "many", "calls", "tie", "row", "one"]
abbrev px_law_some : List Str := ["pool", "takes"]
noncomputable def mx_law_some : En → AH → RS := (seq (sSet 2 (cal [] 2 Fx_law_pick (acons (var 0) (acons (cI 4) anil))))
  (seq (sSet 3 (bin dAdd (cI 1) (cal [] 2 Fx_law_pick (acons (var 0) (acons (cI 3) anil)))))
  (seq (sSet 4 (cal [] 1 Fx_law_blank (acons (dsp bLen (acons (var 1) anil)) anil)))
  (seq (sFor (wS (cal [] 2 Fx_law_called (acons (dsp bLen (acons (var 1) anil)) (acons (var 1) anil)))) (gN 5) (seq (sSet 6 (bin ixD (var 4) (bin ixD (var 5) (cI 0))))
  (seq (sSet 7 (cal [] 2 Fx_law_pick (acons (var 0) (acons (cI 4) anil))))
  (sSto (var 6) (bin ixD (var 5) (cI 1)) (bin ixD (dsp mkF (acons (cI 0) (acons (var 7) (acons (bin dMul (var 3) (bin ixD (bin ixD (var 1) (bin ixD (var 5) (cI 0))) (bin ixD (var 5) (cI 1)))) (acons (bin dMul (var 3) (bin dFdiv (var 7) (cI 3))) anil))))) (var 2))))))
  (sRet (var 4))))))
noncomputable def Fx_law_some : List D → AH → Res D := fnm sel0 8 mx_law_some
abbrev Nx_law_minus : List Str := ["one", "other"]
abbrev px_law_minus : List Str := ["one", "other"]
noncomputable def mx_law_minus : En → AH → RS := (sRet (cal [] 2 Fx_law_low (acons (bin dSub (bin dMul (bin ixD (var 0) (cI 0)) (bin ixD (var 1) (cI 1))) (bin dMul (bin ixD (var 1) (cI 0)) (bin ixD (var 0) (cI 1)))) (acons (bin dMul (bin ixD (var 0) (cI 1)) (bin ixD (var 1) (cI 1))) anil))))
noncomputable def Fx_law_minus : List D → AH → Res D := fnm sel0 2 mx_law_minus
abbrev Nx_law_flip_rates : List Str := ["size", "takes", "calls", "number", "lot", "rates", "i", "rate", "j"]
abbrev px_law_flip_rates : List Str := ["size", "takes", "calls", "number"]
noncomputable def mx_law_flip_rates : En → AH → RS := (seq (sSet 4 (bin ixD (cal [] 1 Fx_law_lots (acons (var 0) anil)) (var 3)))
  (seq (sSet 5 (dsp mkC anil))
  (seq (sFor (wkR1 (var 0)) (gN 6) (seq (sSet 7 (cI 0))
  (seq (sFor (wkR1 (var 0)) (gN 8) (seq (sIf (tand (tcm (dIn false) (var 6) (var 4)) (tcm (dIn true) (var 8) (var 4))) (sSet 7 (bin dAdd (var 7) (bin ixD (bin ixD (var 1) (var 6)) (var 8)))) skip)
  (sIf (tand (tcm (dIn true) (var 6) (var 4)) (tcm (dIn false) (var 8) (var 4))) (sSet 7 (bin dAdd (bin dAdd (var 7) (bin ixD (bin ixD (var 1) (var 6)) (var 8))) (bin ixD (bin ixD (var 2) (var 6)) (var 8)))) skip)))
  (sExpr (met1 oApp (var 5) (var 7))))))
  (sRet (var 5)))))
noncomputable def Fx_law_flip_rates : List D → AH → Res D := fnm sel0 9 mx_law_flip_rates
abbrev Nx_law_flipped : List Str := ["size", "number", "i", "step"]
abbrev px_law_flipped : List Str := ["size", "number", "i"]
noncomputable def mx_law_flipped : En → AH → RS := (seq (sSet 3 (cal [] 1 Fx_law_number (acons (dsp mkF (acons (var 2) anil)) anil)))
  (seq (sIf (tcm (dIn false) (var 2) (bin ixD (cal [] 1 Fx_law_lots (acons (var 0) anil)) (var 1))) (sRet (bin dSub (var 1) (var 3))) skip)
  (sRet (bin dAdd (var 1) (var 3)))))
noncomputable def Fx_law_flipped : List D → AH → Res D := fnm sel0 4 mx_law_flipped
abbrev Nx_law_behind : List Str := ["size", "takes", "calls", "row", "number", "rates", "whole", "top", "bottom", "i", "entry"]
abbrev px_law_behind : List Str := ["size", "takes", "calls", "row", "number"]
noncomputable def mx_law_behind : En → AH → RS := (seq (sSet 5 (cal [] 4 Fx_law_flip_rates (acons (var 0) (acons (var 1) (acons (var 2) (acons (var 4) anil))))))
  (seq (sSet 6 (dsp bSum (acons (var 5) anil)))
  (seq (sIf (tcm dEq (var 6) (cI 0)) (sRet (bin ixD (var 3) (var 4))) skip)
  (seq (sSet 7 (cI 0))
  (seq (sSet 8 (cI 1))
  (seq (sFor (wkR1 (var 0)) (gN 9) (seq (sSet 10 (bin ixD (var 3) (cal [] 3 Fx_law_flipped (acons (var 0) (acons (var 4) (acons (var 9) anil))))))
  (seq (sSet 7 (bin dAdd (bin dMul (var 7) (bin ixD (var 10) (cI 1))) (bin dMul (bin dMul (bin ixD (var 5) (var 9)) (bin ixD (var 10) (cI 0))) (var 8))))
  (sSet 8 (bin dMul (var 8) (bin ixD (var 10) (cI 1)))))))
  (sRet (cal [] 2 Fx_law_low (acons (var 7) (acons (bin dMul (var 8) (var 6)) anil))))))))))
noncomputable def Fx_law_behind : List D → AH → Res D := fnm sel0 11 mx_law_behind
abbrev Nx_law_cut_off : List Str := ["takes", "told", "row"]
abbrev px_law_cut_off : List Str := ["takes"]
noncomputable def mx_law_cut_off : En → AH → RS := (seq (sSet 1 fun en h => (lcR [2] (wS (var 0)) (gN 2) tyes (dsp (bLst mkF) (acons (var 2) anil)) en h).bind mkLC)
  (seq (sSto (var 1) (cI 0) (bin dMul (dsp mkC (acons (cI 0) anil)) (dsp bLen (acons (var 0) anil))))
  (sRet (var 1))))
noncomputable def Fx_law_cut_off : List D → AH → Res D := fnm sel0 3 mx_law_cut_off
end Sh
namespace K81
open PySem PySem.Spec PyProof.Rows L2 Cb Sh
def top (i : Nat) : Stmt := PySem.Challenge.pw_copiedby_k81_prizes_by_number_and_counts.main.body.getD i (.Pass ⟨0, 0, 0, 0⟩)
def clsAt (s : Stmt) (j : Nat) : Stmt := match s with
  | .ClassDef _ _ _ b _ _ _ _ _ _ _ => b.getD j (.Pass ⟨0, 0, 0, 0⟩)
  | _ => .Pass ⟨0, 0, 0, 0⟩
abbrev sis_whole : Stmt := top 7
abbrev sx_ratios_lowest : Stmt := top 8
abbrev sfraction_of : Stmt := top 9
abbrev sadded : Stmt := top 10
abbrev stimes : Stmt := top 11
abbrev scompare : Stmt := top 12
abbrev sx_lots_size : Stmt := top 14
abbrev slot_from : Stmt := top 15
abbrev sall_lots : Stmt := top 16
abbrev scheck_blocks : Stmt := top 18
abbrev sx_prizes_entries : Stmt := top 21
abbrev sstop_size : Stmt := top 22
abbrev sprize_of : Stmt := top 23
abbrev samounts_of : Stmt := top 24
abbrev sby_number : Stmt := top 25
abbrev sprize_sum : Stmt := top 26
abbrev srising_break : Stmt := top 27
abbrev scounts_of : Stmt := top 28
abbrev scounts_break : Stmt := top 29
abbrev sx_law_pool : Stmt := top 31
abbrev sx_law_pick : Stmt := top 32
abbrev sx_law_size : Stmt := top 33
abbrev sx_law_lots : Stmt := top 34
abbrev sx_law_number : Stmt := top 35
abbrev sx_law_gcd : Stmt := top 36
abbrev sx_law_int : Stmt := top 37
abbrev sx_law_right : Stmt := top 38
abbrev sx_law_low : Stmt := top 39
abbrev sx_law_sum : Stmt := top 40
abbrev sx_law_mul : Stmt := top 41
abbrev sx_law_row_right : Stmt := top 42
abbrev sx_law_under : Stmt := top 43
abbrev sx_law_prize : Stmt := top 44
abbrev sx_law_hand : Stmt := top 45
abbrev sx_law_some_blocks : Stmt := top 46
abbrev sx_law_counted : Stmt := top 47
abbrev sx_law_first_alike : Stmt := top 48
abbrev sx_law_refused_k81 : Stmt := top 49
abbrev sx_law_falls : Stmt := top 50
abbrev sx_law_uneven : Stmt := top 51
abbrev sx_law_doors_k81 : Stmt := top 52
abbrev slaw_k81 : Stmt := top 53
abbrev s_BadNumber : Stmt := clsAt (top 3) 0
abbrev s_BadFraction : Stmt := clsAt (top 4) 0
abbrev s_BadBlocks : Stmt := clsAt (top 5) 0
abbrev s_BadPrize : Stmt := clsAt (top 20) 0
end K81
namespace K81
open PySem PySem.Spec PyProof.Rows L2 Cb Sh
structure Fx (P : Program) (w : World) (K : PySem.W.Frag) (mg : Str → Option Value) (base : Heap) (B : Tab) : Prop where
  hK : B.K = K
  dis_whole : ∃ fd, FunD K "is_whole" "is_whole" (defArgs sis_whole) (defBody sis_whole) (defScope sis_whole) [] [] (He.fAd K ("is_whole", none)) fd
  gis_whole : mg "is_whole" = some (.ref (He.fAd K ("is_whole", none)))
  dx_ratios_lowest : ∃ fd, FunD K "_ratios_lowest" "_ratios_lowest" (defArgs sx_ratios_lowest) (defBody sx_ratios_lowest) (defScope sx_ratios_lowest) [] [] (He.fAd K ("_ratios_lowest", none)) fd
  gx_ratios_lowest : mg "_ratios_lowest" = some (.ref (He.fAd K ("_ratios_lowest", none)))
  dfraction_of : ∃ fd, FunD K "fraction_of" "fraction_of" (defArgs sfraction_of) (defBody sfraction_of) (defScope sfraction_of) [] [] (He.fAd K ("fraction_of", none)) fd
  gfraction_of : mg "fraction_of" = some (.ref (He.fAd K ("fraction_of", none)))
  dadded : ∃ fd, FunD K "added" "added" (defArgs sadded) (defBody sadded) (defScope sadded) [] [] (He.fAd K ("added", none)) fd
  gadded : mg "added" = some (.ref (He.fAd K ("added", none)))
  dtimes : ∃ fd, FunD K "times" "times" (defArgs stimes) (defBody stimes) (defScope stimes) [] [] (He.fAd K ("times", none)) fd
  gtimes : mg "times" = some (.ref (He.fAd K ("times", none)))
  dcompare : ∃ fd, FunD K "compare" "compare" (defArgs scompare) (defBody scompare) (defScope scompare) [] [] (He.fAd K ("compare", none)) fd
  gcompare : mg "compare" = some (.ref (He.fAd K ("compare", none)))
  dx_lots_size : ∃ fd, FunD K "_lots_size" "_lots_size" (defArgs sx_lots_size) (defBody sx_lots_size) (defScope sx_lots_size) [] [] (He.fAd K ("_lots_size", none)) fd
  gx_lots_size : mg "_lots_size" = some (.ref (He.fAd K ("_lots_size", none)))
  dlot_from : ∃ fd, FunD K "lot_from" "lot_from" (defArgs slot_from) (defBody slot_from) (defScope slot_from) [] [] (He.fAd K ("lot_from", none)) fd
  glot_from : mg "lot_from" = some (.ref (He.fAd K ("lot_from", none)))
  dall_lots : ∃ fd, FunD K "all_lots" "all_lots" (defArgs sall_lots) (defBody sall_lots) (defScope sall_lots) [] [] (He.fAd K ("all_lots", none)) fd
  gall_lots : mg "all_lots" = some (.ref (He.fAd K ("all_lots", none)))
  dcheck_blocks : ∃ fd, FunD K "check_blocks" "check_blocks" (defArgs scheck_blocks) (defBody scheck_blocks) (defScope scheck_blocks) [] [] (He.fAd K ("check_blocks", none)) fd
  gcheck_blocks : mg "check_blocks" = some (.ref (He.fAd K ("check_blocks", none)))
  dx_prizes_entries : ∃ fd, FunD K "_prizes_entries" "_prizes_entries" (defArgs sx_prizes_entries) (defBody sx_prizes_entries) (defScope sx_prizes_entries) [] [] (He.fAd K ("_prizes_entries", none)) fd
  gx_prizes_entries : mg "_prizes_entries" = some (.ref (He.fAd K ("_prizes_entries", none)))
  dstop_size : ∃ fd, FunD K "stop_size" "stop_size" (defArgs sstop_size) (defBody sstop_size) (defScope sstop_size) [] [] (He.fAd K ("stop_size", none)) fd
  gstop_size : mg "stop_size" = some (.ref (He.fAd K ("stop_size", none)))
  dprize_of : ∃ fd, FunD K "prize_of" "prize_of" (defArgs sprize_of) (defBody sprize_of) (defScope sprize_of) [] [] (He.fAd K ("prize_of", none)) fd
  gprize_of : mg "prize_of" = some (.ref (He.fAd K ("prize_of", none)))
  damounts_of : ∃ fd, FunD K "amounts_of" "amounts_of" (defArgs samounts_of) (defBody samounts_of) (defScope samounts_of) [] [] (He.fAd K ("amounts_of", none)) fd
  gamounts_of : mg "amounts_of" = some (.ref (He.fAd K ("amounts_of", none)))
  dby_number : ∃ fd, FunD K "by_number" "by_number" (defArgs sby_number) (defBody sby_number) (defScope sby_number) [] [] (He.fAd K ("by_number", none)) fd
  gby_number : mg "by_number" = some (.ref (He.fAd K ("by_number", none)))
  dprize_sum : ∃ fd, FunD K "prize_sum" "prize_sum" (defArgs sprize_sum) (defBody sprize_sum) (defScope sprize_sum) [] [("factor", .int 1)] (He.fAd K ("prize_sum", none)) fd
  gprize_sum : mg "prize_sum" = some (.ref (He.fAd K ("prize_sum", none)))
  drising_break : ∃ fd, FunD K "rising_break" "rising_break" (defArgs srising_break) (defBody srising_break) (defScope srising_break) [] [] (He.fAd K ("rising_break", none)) fd
  grising_break : mg "rising_break" = some (.ref (He.fAd K ("rising_break", none)))
  dcounts_of : ∃ fd, FunD K "counts_of" "counts_of" (defArgs scounts_of) (defBody scounts_of) (defScope scounts_of) [] [] (He.fAd K ("counts_of", none)) fd
  gcounts_of : mg "counts_of" = some (.ref (He.fAd K ("counts_of", none)))
  dcounts_break : ∃ fd, FunD K "counts_break" "counts_break" (defArgs scounts_break) (defBody scounts_break) (defScope scounts_break) [] [] (He.fAd K ("counts_break", none)) fd
  gcounts_break : mg "counts_break" = some (.ref (He.fAd K ("counts_break", none)))
  dx_law_pool : ∃ fd, FunD K "_law_pool" "_law_pool" (defArgs sx_law_pool) (defBody sx_law_pool) (defScope sx_law_pool) [] [] (He.fAd K ("_law_pool", none)) fd
  gx_law_pool : mg "_law_pool" = some (.ref (He.fAd K ("_law_pool", none)))
  dx_law_pick : ∃ fd, FunD K "_law_pick" "_law_pick" (defArgs sx_law_pick) (defBody sx_law_pick) (defScope sx_law_pick) [] [] (He.fAd K ("_law_pick", none)) fd
  gx_law_pick : mg "_law_pick" = some (.ref (He.fAd K ("_law_pick", none)))
  dx_law_size : ∃ fd, FunD K "_law_size" "_law_size" (defArgs sx_law_size) (defBody sx_law_size) (defScope sx_law_size) [] [] (He.fAd K ("_law_size", none)) fd
  gx_law_size : mg "_law_size" = some (.ref (He.fAd K ("_law_size", none)))
  dx_law_lots : ∃ fd, FunD K "_law_lots" "_law_lots" (defArgs sx_law_lots) (defBody sx_law_lots) (defScope sx_law_lots) [] [] (He.fAd K ("_law_lots", none)) fd
  gx_law_lots : mg "_law_lots" = some (.ref (He.fAd K ("_law_lots", none)))
  dx_law_number : ∃ fd, FunD K "_law_number" "_law_number" (defArgs sx_law_number) (defBody sx_law_number) (defScope sx_law_number) [] [] (He.fAd K ("_law_number", none)) fd
  gx_law_number : mg "_law_number" = some (.ref (He.fAd K ("_law_number", none)))
  dx_law_gcd : ∃ fd, FunD K "_law_gcd" "_law_gcd" (defArgs sx_law_gcd) (defBody sx_law_gcd) (defScope sx_law_gcd) [] [] (He.fAd K ("_law_gcd", none)) fd
  gx_law_gcd : mg "_law_gcd" = some (.ref (He.fAd K ("_law_gcd", none)))
  dx_law_int : ∃ fd, FunD K "_law_int" "_law_int" (defArgs sx_law_int) (defBody sx_law_int) (defScope sx_law_int) [] [] (He.fAd K ("_law_int", none)) fd
  gx_law_int : mg "_law_int" = some (.ref (He.fAd K ("_law_int", none)))
  dx_law_right : ∃ fd, FunD K "_law_right" "_law_right" (defArgs sx_law_right) (defBody sx_law_right) (defScope sx_law_right) [] [] (He.fAd K ("_law_right", none)) fd
  gx_law_right : mg "_law_right" = some (.ref (He.fAd K ("_law_right", none)))
  dx_law_low : ∃ fd, FunD K "_law_low" "_law_low" (defArgs sx_law_low) (defBody sx_law_low) (defScope sx_law_low) [] [] (He.fAd K ("_law_low", none)) fd
  gx_law_low : mg "_law_low" = some (.ref (He.fAd K ("_law_low", none)))
  dx_law_sum : ∃ fd, FunD K "_law_sum" "_law_sum" (defArgs sx_law_sum) (defBody sx_law_sum) (defScope sx_law_sum) [] [] (He.fAd K ("_law_sum", none)) fd
  gx_law_sum : mg "_law_sum" = some (.ref (He.fAd K ("_law_sum", none)))
  dx_law_mul : ∃ fd, FunD K "_law_mul" "_law_mul" (defArgs sx_law_mul) (defBody sx_law_mul) (defScope sx_law_mul) [] [] (He.fAd K ("_law_mul", none)) fd
  gx_law_mul : mg "_law_mul" = some (.ref (He.fAd K ("_law_mul", none)))
  dx_law_row_right : ∃ fd, FunD K "_law_row_right" "_law_row_right" (defArgs sx_law_row_right) (defBody sx_law_row_right) (defScope sx_law_row_right) [] [] (He.fAd K ("_law_row_right", none)) fd
  gx_law_row_right : mg "_law_row_right" = some (.ref (He.fAd K ("_law_row_right", none)))
  dx_law_under : ∃ fd, FunD K "_law_under" "_law_under" (defArgs sx_law_under) (defBody sx_law_under) (defScope sx_law_under) [] [] (He.fAd K ("_law_under", none)) fd
  gx_law_under : mg "_law_under" = some (.ref (He.fAd K ("_law_under", none)))
  dx_law_prize : ∃ fd, FunD K "_law_prize" "_law_prize" (defArgs sx_law_prize) (defBody sx_law_prize) (defScope sx_law_prize) [] [] (He.fAd K ("_law_prize", none)) fd
  gx_law_prize : mg "_law_prize" = some (.ref (He.fAd K ("_law_prize", none)))
  dx_law_hand : ∃ fd, FunD K "_law_hand" "_law_hand" (defArgs sx_law_hand) (defBody sx_law_hand) (defScope sx_law_hand) [] [] (He.fAd K ("_law_hand", none)) fd
  gx_law_hand : mg "_law_hand" = some (.ref (He.fAd K ("_law_hand", none)))
  dx_law_some_blocks : ∃ fd, FunD K "_law_some_blocks" "_law_some_blocks" (defArgs sx_law_some_blocks) (defBody sx_law_some_blocks) (defScope sx_law_some_blocks) [] [] (He.fAd K ("_law_some_blocks", none)) fd
  gx_law_some_blocks : mg "_law_some_blocks" = some (.ref (He.fAd K ("_law_some_blocks", none)))
  dx_law_counted : ∃ fd, FunD K "_law_counted" "_law_counted" (defArgs sx_law_counted) (defBody sx_law_counted) (defScope sx_law_counted) [] [] (He.fAd K ("_law_counted", none)) fd
  gx_law_counted : mg "_law_counted" = some (.ref (He.fAd K ("_law_counted", none)))
  dx_law_first_alike : ∃ fd, FunD K "_law_first_alike" "_law_first_alike" (defArgs sx_law_first_alike) (defBody sx_law_first_alike) (defScope sx_law_first_alike) [] [] (He.fAd K ("_law_first_alike", none)) fd
  gx_law_first_alike : mg "_law_first_alike" = some (.ref (He.fAd K ("_law_first_alike", none)))
  dx_law_refused_k81 : ∃ fd, FunD K "_law_refused" "_law_refused" (defArgs sx_law_refused_k81) (defBody sx_law_refused_k81) (defScope sx_law_refused_k81) [] [] (He.fAd K ("_law_refused", none)) fd
  gx_law_refused_k81 : mg "_law_refused" = some (.ref (He.fAd K ("_law_refused", none)))
  dx_law_falls : ∃ fd, FunD K "_law_falls" "_law_falls" (defArgs sx_law_falls) (defBody sx_law_falls) (defScope sx_law_falls) [] [] (He.fAd K ("_law_falls", none)) fd
  gx_law_falls : mg "_law_falls" = some (.ref (He.fAd K ("_law_falls", none)))
  dx_law_uneven : ∃ fd, FunD K "_law_uneven" "_law_uneven" (defArgs sx_law_uneven) (defBody sx_law_uneven) (defScope sx_law_uneven) [] [] (He.fAd K ("_law_uneven", none)) fd
  gx_law_uneven : mg "_law_uneven" = some (.ref (He.fAd K ("_law_uneven", none)))
  dx_law_doors_k81 : ∃ fd, FunD K "_law_doors" "_law_doors" (defArgs sx_law_doors_k81) (defBody sx_law_doors_k81) (defScope sx_law_doors_k81) [] [] (He.fAd K ("_law_doors", none)) fd
  gx_law_doors_k81 : mg "_law_doors" = some (.ref (He.fAd K ("_law_doors", none)))
  dlaw_k81 : ∃ fd, FunD K "law" "law" (defArgs slaw_k81) (defBody slaw_k81) (defScope slaw_k81) [] [] (He.fAd K ("law", none)) fd
  glaw_k81 : mg "law" = some (.ref (He.fAd K ("law", none)))
  b_abs : mg "abs" = none
  b_bool : mg "bool" = none
  b_enumerate : mg "enumerate" = none
  b_gcd : mg "gcd" = some (.builtin "math.gcd")
  b_int : mg "int" = none
  b_isinstance : mg "isinstance" = none
  b_len : mg "len" = none
  b_list : mg "list" = none
  b_max : mg "max" = none
  b_min : mg "min" = none
  b_range : mg "range" = none
  b_sorted : mg "sorted" = none
  b_sum : mg "sum" = none
  b_tuple : mg "tuple" = none
  b_zip : mg "zip" = none
  e_BadNumber : ErrC P w K mg base B 0 "BadNumber"
  x_BadNumber : ∀ c ∈ B.ks, PySem.W.exmOne K (.ref (B.err c)) (.ref (B.err 0)) = some (c == 0)
  f_BadNumber : B.fld 0 = "name"
  e_BadFraction : ErrC P w K mg base B 1 "BadFraction"
  x_BadFraction : ∀ c ∈ B.ks, PySem.W.exmOne K (.ref (B.err c)) (.ref (B.err 1)) = some (c == 1)
  f_BadFraction : B.fld 1 = "name"
  e_BadBlocks : ErrC P w K mg base B 7 "BadBlocks"
  x_BadBlocks : ∀ c ∈ B.ks, PySem.W.exmOne K (.ref (B.err c)) (.ref (B.err 7)) = some (c == 7)
  f_BadBlocks : B.fld 7 = "place"
  e_BadPrize : ErrC P w K mg base B 2 "BadPrize"
  x_BadPrize : ∀ c ∈ B.ks, PySem.W.exmOne K (.ref (B.err c)) (.ref (B.err 2)) = some (c == 2)
  f_BadPrize : B.fld 2 = "at"
  c_RatesError : mg "RatesError" = some (.ref (He.ga K "RatesError"))
  q_BadBlocks_RatesError : PySem.W.kitOne K (.ref (B.err 7)) (.ref (He.ga K "RatesError")) = some true
  q_BadFraction_BadPrize : PySem.W.kitOne K (.ref (B.err 1)) (.ref (B.err 2)) = some false
  q_BadFraction_RatesError : PySem.W.kitOne K (.ref (B.err 1)) (.ref (He.ga K "RatesError")) = some true
  q_BadNumber_BadFraction : PySem.W.kitOne K (.ref (B.err 0)) (.ref (B.err 1)) = some false
  q_BadNumber_RatesError : PySem.W.kitOne K (.ref (B.err 0)) (.ref (He.ga K "RatesError")) = some true
  q_BadPrize_BadNumber : PySem.W.kitOne K (.ref (B.err 2)) (.ref (B.err 0)) = some false
  q_BadPrize_RatesError : PySem.W.kitOne K (.ref (B.err 2)) (.ref (He.ga K "RatesError")) = some true
section
variable {P : Program} {w : World} {K : PySem.W.Frag} {mg : Str → Option Value} {base : Heap} {B : Tab}
theorem Fx.kis_whole (Z : Fx P w K mg base B) : PySem.W.keepIn K (.ref (He.fAd K ("is_whole", none))) = true := Z.dis_whole.choose_spec.kp
theorem Sis_whole : FnScope Nis_whole pis_whole (defScope sis_whole) := ⟨rfl, rfl, rfl, by decide +kernel, rfl, by decide +kernel, by decide +kernel⟩
theorem Fx.kx_ratios_lowest (Z : Fx P w K mg base B) : PySem.W.keepIn K (.ref (He.fAd K ("_ratios_lowest", none))) = true := Z.dx_ratios_lowest.choose_spec.kp
theorem Sx_ratios_lowest : FnScope Nx_ratios_lowest px_ratios_lowest (defScope sx_ratios_lowest) := ⟨rfl, rfl, rfl, by decide +kernel, rfl, by decide +kernel, by decide +kernel⟩
theorem Fx.kfraction_of (Z : Fx P w K mg base B) : PySem.W.keepIn K (.ref (He.fAd K ("fraction_of", none))) = true := Z.dfraction_of.choose_spec.kp
theorem Sfraction_of : FnScope Nfraction_of pfraction_of (defScope sfraction_of) := ⟨rfl, rfl, rfl, by decide +kernel, rfl, by decide +kernel, by decide +kernel⟩
theorem Fx.kadded (Z : Fx P w K mg base B) : PySem.W.keepIn K (.ref (He.fAd K ("added", none))) = true := Z.dadded.choose_spec.kp
theorem Sadded : FnScope Nadded padded (defScope sadded) := ⟨rfl, rfl, rfl, by decide +kernel, rfl, by decide +kernel, by decide +kernel⟩
theorem Fx.ktimes (Z : Fx P w K mg base B) : PySem.W.keepIn K (.ref (He.fAd K ("times", none))) = true := Z.dtimes.choose_spec.kp
theorem Stimes : FnScope Ntimes ptimes (defScope stimes) := ⟨rfl, rfl, rfl, by decide +kernel, rfl, by decide +kernel, by decide +kernel⟩
theorem Fx.kcompare (Z : Fx P w K mg base B) : PySem.W.keepIn K (.ref (He.fAd K ("compare", none))) = true := Z.dcompare.choose_spec.kp
theorem Scompare : FnScope Ncompare pcompare (defScope scompare) := ⟨rfl, rfl, rfl, by decide +kernel, rfl, by decide +kernel, by decide +kernel⟩
theorem Fx.kx_lots_size (Z : Fx P w K mg base B) : PySem.W.keepIn K (.ref (He.fAd K ("_lots_size", none))) = true := Z.dx_lots_size.choose_spec.kp
theorem Sx_lots_size : FnScope Nx_lots_size px_lots_size (defScope sx_lots_size) := ⟨rfl, rfl, rfl, by decide +kernel, rfl, by decide +kernel, by decide +kernel⟩
theorem Fx.klot_from (Z : Fx P w K mg base B) : PySem.W.keepIn K (.ref (He.fAd K ("lot_from", none))) = true := Z.dlot_from.choose_spec.kp
theorem Slot_from : FnScope Nlot_from plot_from (defScope slot_from) := ⟨rfl, rfl, rfl, by decide +kernel, rfl, by decide +kernel, by decide +kernel⟩
theorem Fx.kall_lots (Z : Fx P w K mg base B) : PySem.W.keepIn K (.ref (He.fAd K ("all_lots", none))) = true := Z.dall_lots.choose_spec.kp
theorem Sall_lots : FnScope Nall_lots pall_lots (defScope sall_lots) := ⟨rfl, rfl, rfl, by decide +kernel, rfl, by decide +kernel, by decide +kernel⟩
theorem Fx.kcheck_blocks (Z : Fx P w K mg base B) : PySem.W.keepIn K (.ref (He.fAd K ("check_blocks", none))) = true := Z.dcheck_blocks.choose_spec.kp
theorem Scheck_blocks : FnScope Ncheck_blocks pcheck_blocks (defScope scheck_blocks) := ⟨rfl, rfl, rfl, by decide +kernel, rfl, by decide +kernel, by decide +kernel⟩
theorem Fx.kx_prizes_entries (Z : Fx P w K mg base B) : PySem.W.keepIn K (.ref (He.fAd K ("_prizes_entries", none))) = true := Z.dx_prizes_entries.choose_spec.kp
theorem Sx_prizes_entries : FnScope Nx_prizes_entries px_prizes_entries (defScope sx_prizes_entries) := ⟨rfl, rfl, rfl, by decide +kernel, rfl, by decide +kernel, by decide +kernel⟩
theorem Fx.kstop_size (Z : Fx P w K mg base B) : PySem.W.keepIn K (.ref (He.fAd K ("stop_size", none))) = true := Z.dstop_size.choose_spec.kp
theorem Sstop_size : FnScope Nstop_size pstop_size (defScope sstop_size) := ⟨rfl, rfl, rfl, by decide +kernel, rfl, by decide +kernel, by decide +kernel⟩
theorem Fx.kprize_of (Z : Fx P w K mg base B) : PySem.W.keepIn K (.ref (He.fAd K ("prize_of", none))) = true := Z.dprize_of.choose_spec.kp
theorem Sprize_of : FnScope Nprize_of pprize_of (defScope sprize_of) := ⟨rfl, rfl, rfl, by decide +kernel, rfl, by decide +kernel, by decide +kernel⟩
theorem Fx.kamounts_of (Z : Fx P w K mg base B) : PySem.W.keepIn K (.ref (He.fAd K ("amounts_of", none))) = true := Z.damounts_of.choose_spec.kp
theorem Samounts_of : FnScope Namounts_of pamounts_of (defScope samounts_of) := ⟨rfl, rfl, rfl, by decide +kernel, rfl, by decide +kernel, by decide +kernel⟩
theorem Fx.kby_number (Z : Fx P w K mg base B) : PySem.W.keepIn K (.ref (He.fAd K ("by_number", none))) = true := Z.dby_number.choose_spec.kp
theorem Sby_number : FnScope Nby_number pby_number (defScope sby_number) := ⟨rfl, rfl, rfl, by decide +kernel, rfl, by decide +kernel, by decide +kernel⟩
theorem Fx.kprize_sum (Z : Fx P w K mg base B) : PySem.W.keepIn K (.ref (He.fAd K ("prize_sum", none))) = true := Z.dprize_sum.choose_spec.kp
theorem Sprize_sum : FnScope Nprize_sum pprize_sum (defScope sprize_sum) := ⟨rfl, rfl, rfl, by decide +kernel, rfl, by decide +kernel, by decide +kernel⟩
theorem Fx.krising_break (Z : Fx P w K mg base B) : PySem.W.keepIn K (.ref (He.fAd K ("rising_break", none))) = true := Z.drising_break.choose_spec.kp
theorem Srising_break : FnScope Nrising_break prising_break (defScope srising_break) := ⟨rfl, rfl, rfl, by decide +kernel, rfl, by decide +kernel, by decide +kernel⟩
theorem Fx.kcounts_of (Z : Fx P w K mg base B) : PySem.W.keepIn K (.ref (He.fAd K ("counts_of", none))) = true := Z.dcounts_of.choose_spec.kp
theorem Scounts_of : FnScope Ncounts_of pcounts_of (defScope scounts_of) := ⟨rfl, rfl, rfl, by decide +kernel, rfl, by decide +kernel, by decide +kernel⟩
theorem Fx.kcounts_break (Z : Fx P w K mg base B) : PySem.W.keepIn K (.ref (He.fAd K ("counts_break", none))) = true := Z.dcounts_break.choose_spec.kp
theorem Scounts_break : FnScope Ncounts_break pcounts_break (defScope scounts_break) := ⟨rfl, rfl, rfl, by decide +kernel, rfl, by decide +kernel, by decide +kernel⟩
theorem Fx.kx_law_pool (Z : Fx P w K mg base B) : PySem.W.keepIn K (.ref (He.fAd K ("_law_pool", none))) = true := Z.dx_law_pool.choose_spec.kp
theorem Sx_law_pool : FnScope Nx_law_pool px_law_pool (defScope sx_law_pool) := ⟨rfl, rfl, rfl, by decide +kernel, rfl, by decide +kernel, by decide +kernel⟩
theorem Fx.kx_law_pick (Z : Fx P w K mg base B) : PySem.W.keepIn K (.ref (He.fAd K ("_law_pick", none))) = true := Z.dx_law_pick.choose_spec.kp
theorem Sx_law_pick : FnScope Nx_law_pick px_law_pick (defScope sx_law_pick) := ⟨rfl, rfl, rfl, by decide +kernel, rfl, by decide +kernel, by decide +kernel⟩
theorem Fx.kx_law_size (Z : Fx P w K mg base B) : PySem.W.keepIn K (.ref (He.fAd K ("_law_size", none))) = true := Z.dx_law_size.choose_spec.kp
theorem Sx_law_size : FnScope Nx_law_size px_law_size (defScope sx_law_size) := ⟨rfl, rfl, rfl, by decide +kernel, rfl, by decide +kernel, by decide +kernel⟩
theorem Fx.kx_law_lots (Z : Fx P w K mg base B) : PySem.W.keepIn K (.ref (He.fAd K ("_law_lots", none))) = true := Z.dx_law_lots.choose_spec.kp
theorem Sx_law_lots : FnScope Nx_law_lots px_law_lots (defScope sx_law_lots) := ⟨rfl, rfl, rfl, by decide +kernel, rfl, by decide +kernel, by decide +kernel⟩
theorem Fx.kx_law_number (Z : Fx P w K mg base B) : PySem.W.keepIn K (.ref (He.fAd K ("_law_number", none))) = true := Z.dx_law_number.choose_spec.kp
theorem Sx_law_number : FnScope Nx_law_number px_law_number (defScope sx_law_number) := ⟨rfl, rfl, rfl, by decide +kernel, rfl, by decide +kernel, by decide +kernel⟩
theorem Fx.kx_law_gcd (Z : Fx P w K mg base B) : PySem.W.keepIn K (.ref (He.fAd K ("_law_gcd", none))) = true := Z.dx_law_gcd.choose_spec.kp
theorem Sx_law_gcd : FnScope Nx_law_gcd px_law_gcd (defScope sx_law_gcd) := ⟨rfl, rfl, rfl, by decide +kernel, rfl, by decide +kernel, by decide +kernel⟩
theorem Fx.kx_law_int (Z : Fx P w K mg base B) : PySem.W.keepIn K (.ref (He.fAd K ("_law_int", none))) = true := Z.dx_law_int.choose_spec.kp
theorem Sx_law_int : FnScope Nx_law_int px_law_int (defScope sx_law_int) := ⟨rfl, rfl, rfl, by decide +kernel, rfl, by decide +kernel, by decide +kernel⟩
theorem Fx.kx_law_right (Z : Fx P w K mg base B) : PySem.W.keepIn K (.ref (He.fAd K ("_law_right", none))) = true := Z.dx_law_right.choose_spec.kp
theorem Sx_law_right : FnScope Nx_law_right px_law_right (defScope sx_law_right) := ⟨rfl, rfl, rfl, by decide +kernel, rfl, by decide +kernel, by decide +kernel⟩
theorem Fx.kx_law_low (Z : Fx P w K mg base B) : PySem.W.keepIn K (.ref (He.fAd K ("_law_low", none))) = true := Z.dx_law_low.choose_spec.kp
theorem Sx_law_low : FnScope Nx_law_low px_law_low (defScope sx_law_low) := ⟨rfl, rfl, rfl, by decide +kernel, rfl, by decide +kernel, by decide +kernel⟩
theorem Fx.kx_law_sum (Z : Fx P w K mg base B) : PySem.W.keepIn K (.ref (He.fAd K ("_law_sum", none))) = true := Z.dx_law_sum.choose_spec.kp
theorem Sx_law_sum : FnScope Nx_law_sum px_law_sum (defScope sx_law_sum) := ⟨rfl, rfl, rfl, by decide +kernel, rfl, by decide +kernel, by decide +kernel⟩
theorem Fx.kx_law_mul (Z : Fx P w K mg base B) : PySem.W.keepIn K (.ref (He.fAd K ("_law_mul", none))) = true := Z.dx_law_mul.choose_spec.kp
theorem Sx_law_mul : FnScope Nx_law_mul px_law_mul (defScope sx_law_mul) := ⟨rfl, rfl, rfl, by decide +kernel, rfl, by decide +kernel, by decide +kernel⟩
theorem Fx.kx_law_row_right (Z : Fx P w K mg base B) : PySem.W.keepIn K (.ref (He.fAd K ("_law_row_right", none))) = true := Z.dx_law_row_right.choose_spec.kp
theorem Sx_law_row_right : FnScope Nx_law_row_right px_law_row_right (defScope sx_law_row_right) := ⟨rfl, rfl, rfl, by decide +kernel, rfl, by decide +kernel, by decide +kernel⟩
theorem Fx.kx_law_under (Z : Fx P w K mg base B) : PySem.W.keepIn K (.ref (He.fAd K ("_law_under", none))) = true := Z.dx_law_under.choose_spec.kp
theorem Sx_law_under : FnScope Nx_law_under px_law_under (defScope sx_law_under) := ⟨rfl, rfl, rfl, by decide +kernel, rfl, by decide +kernel, by decide +kernel⟩
theorem Fx.kx_law_prize (Z : Fx P w K mg base B) : PySem.W.keepIn K (.ref (He.fAd K ("_law_prize", none))) = true := Z.dx_law_prize.choose_spec.kp
theorem Sx_law_prize : FnScope Nx_law_prize px_law_prize (defScope sx_law_prize) := ⟨rfl, rfl, rfl, by decide +kernel, rfl, by decide +kernel, by decide +kernel⟩
theorem Fx.kx_law_hand (Z : Fx P w K mg base B) : PySem.W.keepIn K (.ref (He.fAd K ("_law_hand", none))) = true := Z.dx_law_hand.choose_spec.kp
theorem Sx_law_hand : FnScope Nx_law_hand px_law_hand (defScope sx_law_hand) := ⟨rfl, rfl, rfl, by decide +kernel, rfl, by decide +kernel, by decide +kernel⟩
theorem Fx.kx_law_some_blocks (Z : Fx P w K mg base B) : PySem.W.keepIn K (.ref (He.fAd K ("_law_some_blocks", none))) = true := Z.dx_law_some_blocks.choose_spec.kp
theorem Sx_law_some_blocks : FnScope Nx_law_some_blocks px_law_some_blocks (defScope sx_law_some_blocks) := ⟨rfl, rfl, rfl, by decide +kernel, rfl, by decide +kernel, by decide +kernel⟩
theorem Fx.kx_law_counted (Z : Fx P w K mg base B) : PySem.W.keepIn K (.ref (He.fAd K ("_law_counted", none))) = true := Z.dx_law_counted.choose_spec.kp
theorem Sx_law_counted : FnScope Nx_law_counted px_law_counted (defScope sx_law_counted) := ⟨rfl, rfl, rfl, by decide +kernel, rfl, by decide +kernel, by decide +kernel⟩
theorem Fx.kx_law_first_alike (Z : Fx P w K mg base B) : PySem.W.keepIn K (.ref (He.fAd K ("_law_first_alike", none))) = true := Z.dx_law_first_alike.choose_spec.kp
theorem Sx_law_first_alike : FnScope Nx_law_first_alike px_law_first_alike (defScope sx_law_first_alike) := ⟨rfl, rfl, rfl, by decide +kernel, rfl, by decide +kernel, by decide +kernel⟩
theorem Fx.kx_law_refused_k81 (Z : Fx P w K mg base B) : PySem.W.keepIn K (.ref (He.fAd K ("_law_refused", none))) = true := Z.dx_law_refused_k81.choose_spec.kp
theorem Sx_law_refused_k81 : FnScope Nx_law_refused_k81 px_law_refused_k81 (defScope sx_law_refused_k81) := ⟨rfl, rfl, rfl, by decide +kernel, rfl, by decide +kernel, by decide +kernel⟩
theorem Fx.kx_law_falls (Z : Fx P w K mg base B) : PySem.W.keepIn K (.ref (He.fAd K ("_law_falls", none))) = true := Z.dx_law_falls.choose_spec.kp
theorem Sx_law_falls : FnScope Nx_law_falls px_law_falls (defScope sx_law_falls) := ⟨rfl, rfl, rfl, by decide +kernel, rfl, by decide +kernel, by decide +kernel⟩
theorem Fx.kx_law_uneven (Z : Fx P w K mg base B) : PySem.W.keepIn K (.ref (He.fAd K ("_law_uneven", none))) = true := Z.dx_law_uneven.choose_spec.kp
theorem Sx_law_uneven : FnScope Nx_law_uneven px_law_uneven (defScope sx_law_uneven) := ⟨rfl, rfl, rfl, by decide +kernel, rfl, by decide +kernel, by decide +kernel⟩
theorem Fx.kx_law_doors_k81 (Z : Fx P w K mg base B) : PySem.W.keepIn K (.ref (He.fAd K ("_law_doors", none))) = true := Z.dx_law_doors_k81.choose_spec.kp
theorem Sx_law_doors_k81 : FnScope Nx_law_doors_k81 px_law_doors_k81 (defScope sx_law_doors_k81) := ⟨rfl, rfl, rfl, by decide +kernel, rfl, by decide +kernel, by decide +kernel⟩
theorem Fx.klaw_k81 (Z : Fx P w K mg base B) : PySem.W.keepIn K (.ref (He.fAd K ("law", none))) = true := Z.dlaw_k81.choose_spec.kp
theorem Slaw_k81 : FnScope Nlaw_k81 plaw_k81 (defScope slaw_k81) := ⟨rfl, rfl, rfl, by decide +kernel, rfl, by decide +kernel, by decide +kernel⟩
theorem Fx.bdis_whole (Z : Fx P w K mg base B) : ∃ dv, Vals (([] : List D).map cv) dv ∧ Binds K Z.dis_whole.choose pis_whole dv := ⟨[], .nil, Z.dis_whole.choose_spec.bindsN fun _ _ _ _ _ _ us hl => match us, hl with | [_], _ => rfl⟩
theorem Fx.bdx_ratios_lowest (Z : Fx P w K mg base B) : ∃ dv, Vals (([] : List D).map cv) dv ∧ Binds K Z.dx_ratios_lowest.choose px_ratios_lowest dv := ⟨[], .nil, Z.dx_ratios_lowest.choose_spec.bindsN fun _ _ _ _ _ _ us hl => match us, hl with | [_, _], _ => rfl⟩
theorem Fx.bdfraction_of (Z : Fx P w K mg base B) : ∃ dv, Vals (([] : List D).map cv) dv ∧ Binds K Z.dfraction_of.choose pfraction_of dv := ⟨[], .nil, Z.dfraction_of.choose_spec.bindsN fun _ _ _ _ _ _ us hl => match us, hl with | [_, _], _ => rfl⟩
theorem Fx.bdx_lots_size (Z : Fx P w K mg base B) : ∃ dv, Vals (([] : List D).map cv) dv ∧ Binds K Z.dx_lots_size.choose px_lots_size dv := ⟨[], .nil, Z.dx_lots_size.choose_spec.bindsN fun _ _ _ _ _ _ us hl => match us, hl with | [_], _ => rfl⟩
theorem Fx.bdlot_from (Z : Fx P w K mg base B) : ∃ dv, Vals (([] : List D).map cv) dv ∧ Binds K Z.dlot_from.choose plot_from dv := ⟨[], .nil, Z.dlot_from.choose_spec.bindsN fun _ _ _ _ _ _ us hl => match us, hl with | [_], _ => rfl⟩
theorem Fx.bdstop_size (Z : Fx P w K mg base B) : ∃ dv, Vals (([] : List D).map cv) dv ∧ Binds K Z.dstop_size.choose pstop_size dv := ⟨[], .nil, Z.dstop_size.choose_spec.bindsN fun _ _ _ _ _ _ us hl => match us, hl with | [_], _ => rfl⟩
theorem Fx.bdx_prizes_entries (Z : Fx P w K mg base B) : ∃ dv, Vals (([] : List D).map cv) dv ∧ Binds K Z.dx_prizes_entries.choose px_prizes_entries dv := ⟨[], .nil, Z.dx_prizes_entries.choose_spec.bindsN fun _ _ _ _ _ _ us hl => match us, hl with | [_], _ => rfl⟩
theorem Fx.bdamounts_of (Z : Fx P w K mg base B) : ∃ dv, Vals (([] : List D).map cv) dv ∧ Binds K Z.damounts_of.choose pamounts_of dv := ⟨[], .nil, Z.damounts_of.choose_spec.bindsN fun _ _ _ _ _ _ us hl => match us, hl with | [_], _ => rfl⟩
theorem Fx.bdall_lots (Z : Fx P w K mg base B) : ∃ dv, Vals (([] : List D).map cv) dv ∧ Binds K Z.dall_lots.choose pall_lots dv := ⟨[], .nil, Z.dall_lots.choose_spec.bindsN fun _ _ _ _ _ _ us hl => match us, hl with | [_], _ => rfl⟩
theorem Fx.bdprize_of (Z : Fx P w K mg base B) : ∃ dv, Vals (([] : List D).map cv) dv ∧ Binds K Z.dprize_of.choose pprize_of dv := ⟨[], .nil, Z.dprize_of.choose_spec.bindsN fun _ _ _ _ _ _ us hl => match us, hl with | [_, _], _ => rfl⟩
theorem Fx.bdtimes (Z : Fx P w K mg base B) : ∃ dv, Vals (([] : List D).map cv) dv ∧ Binds K Z.dtimes.choose ptimes dv := ⟨[], .nil, Z.dtimes.choose_spec.bindsN fun _ _ _ _ _ _ us hl => match us, hl with | [_, _], _ => rfl⟩
theorem Fx.bdadded (Z : Fx P w K mg base B) : ∃ dv, Vals (([] : List D).map cv) dv ∧ Binds K Z.dadded.choose padded dv := ⟨[], .nil, Z.dadded.choose_spec.bindsN fun _ _ _ _ _ _ us hl => match us, hl with | [_, _], _ => rfl⟩
theorem Fx.bdcompare (Z : Fx P w K mg base B) : ∃ dv, Vals (([] : List D).map cv) dv ∧ Binds K Z.dcompare.choose pcompare dv := ⟨[], .nil, Z.dcompare.choose_spec.bindsN fun _ _ _ _ _ _ us hl => match us, hl with | [_, _], _ => rfl⟩
theorem Fx.bdcheck_blocks (Z : Fx P w K mg base B) : ∃ dv, Vals (([] : List D).map cv) dv ∧ Binds K Z.dcheck_blocks.choose pcheck_blocks dv := ⟨[], .nil, Z.dcheck_blocks.choose_spec.bindsN fun _ _ _ _ _ _ us hl => match us, hl with | [_, _], _ => rfl⟩
theorem Fx.bdcounts_of (Z : Fx P w K mg base B) : ∃ dv, Vals (([] : List D).map cv) dv ∧ Binds K Z.dcounts_of.choose pcounts_of dv := ⟨[], .nil, Z.dcounts_of.choose_spec.bindsN fun _ _ _ _ _ _ us hl => match us, hl with | [_, _], _ => rfl⟩
theorem Fx.bdx_law_pick (Z : Fx P w K mg base B) : ∃ dv, Vals (([] : List D).map cv) dv ∧ Binds K Z.dx_law_pick.choose px_law_pick dv := ⟨[], .nil, Z.dx_law_pick.choose_spec.bindsN fun _ _ _ _ _ _ us hl => match us, hl with | [_, _], _ => rfl⟩
theorem Fx.bdx_law_int (Z : Fx P w K mg base B) : ∃ dv, Vals (([] : List D).map cv) dv ∧ Binds K Z.dx_law_int.choose px_law_int dv := ⟨[], .nil, Z.dx_law_int.choose_spec.bindsN fun _ _ _ _ _ _ us hl => match us, hl with | [_], _ => rfl⟩
theorem Fx.bdx_law_gcd (Z : Fx P w K mg base B) : ∃ dv, Vals (([] : List D).map cv) dv ∧ Binds K Z.dx_law_gcd.choose px_law_gcd dv := ⟨[], .nil, Z.dx_law_gcd.choose_spec.bindsN fun _ _ _ _ _ _ us hl => match us, hl with | [_, _], _ => rfl⟩
theorem Fx.bdx_law_low (Z : Fx P w K mg base B) : ∃ dv, Vals (([] : List D).map cv) dv ∧ Binds K Z.dx_law_low.choose px_law_low dv := ⟨[], .nil, Z.dx_law_low.choose_spec.bindsN fun _ _ _ _ _ _ us hl => match us, hl with | [_, _], _ => rfl⟩
theorem Fx.bdx_law_right (Z : Fx P w K mg base B) : ∃ dv, Vals (([] : List D).map cv) dv ∧ Binds K Z.dx_law_right.choose px_law_right dv := ⟨[], .nil, Z.dx_law_right.choose_spec.bindsN fun _ _ _ _ _ _ us hl => match us, hl with | [_], _ => rfl⟩
theorem Fx.bdx_law_lots (Z : Fx P w K mg base B) : ∃ dv, Vals (([] : List D).map cv) dv ∧ Binds K Z.dx_law_lots.choose px_law_lots dv := ⟨[], .nil, Z.dx_law_lots.choose_spec.bindsN fun _ _ _ _ _ _ us hl => match us, hl with | [_], _ => rfl⟩
theorem Fx.bdx_law_counted (Z : Fx P w K mg base B) : ∃ dv, Vals (([] : List D).map cv) dv ∧ Binds K Z.dx_law_counted.choose px_law_counted dv := ⟨[], .nil, Z.dx_law_counted.choose_spec.bindsN fun _ _ _ _ _ _ us hl => match us, hl with | [_, _, _], _ => rfl⟩
theorem Fx.bdby_number (Z : Fx P w K mg base B) : ∃ dv, Vals (([] : List D).map cv) dv ∧ Binds K Z.dby_number.choose pby_number dv := ⟨[], .nil, Z.dby_number.choose_spec.bindsN fun _ _ _ _ _ _ us hl => match us, hl with | [_], _ => rfl⟩
theorem Fx.bdrising_break (Z : Fx P w K mg base B) : ∃ dv, Vals (([] : List D).map cv) dv ∧ Binds K Z.drising_break.choose prising_break dv := ⟨[], .nil, Z.drising_break.choose_spec.bindsN fun _ _ _ _ _ _ us hl => match us, hl with | [_, _], _ => rfl⟩
theorem Fx.bdcounts_break (Z : Fx P w K mg base B) : ∃ dv, Vals (([] : List D).map cv) dv ∧ Binds K Z.dcounts_break.choose pcounts_break dv := ⟨[], .nil, Z.dcounts_break.choose_spec.bindsN fun _ _ _ _ _ _ us hl => match us, hl with | [_, _, _], _ => rfl⟩
theorem Fx.bdx_law_number (Z : Fx P w K mg base B) : ∃ dv, Vals (([] : List D).map cv) dv ∧ Binds K Z.dx_law_number.choose px_law_number dv := ⟨[], .nil, Z.dx_law_number.choose_spec.bindsN fun _ _ _ _ _ _ us hl => match us, hl with | [_], _ => rfl⟩
theorem Fx.bdx_law_under (Z : Fx P w K mg base B) : ∃ dv, Vals (([] : List D).map cv) dv ∧ Binds K Z.dx_law_under.choose px_law_under dv := ⟨[], .nil, Z.dx_law_under.choose_spec.bindsN fun _ _ _ _ _ _ us hl => match us, hl with | [_, _], _ => rfl⟩
theorem Fx.bdx_law_first_alike (Z : Fx P w K mg base B) : ∃ dv, Vals (([] : List D).map cv) dv ∧ Binds K Z.dx_law_first_alike.choose px_law_first_alike dv := ⟨[], .nil, Z.dx_law_first_alike.choose_spec.bindsN fun _ _ _ _ _ _ us hl => match us, hl with | [_, _, _], _ => rfl⟩
theorem Fx.bdx_law_refused_k81 (Z : Fx P w K mg base B) : ∃ dv, Vals (([] : List D).map cv) dv ∧ Binds K Z.dx_law_refused_k81.choose px_law_refused_k81 dv := ⟨[], .nil, Z.dx_law_refused_k81.choose_spec.bindsN fun _ _ _ _ _ _ us hl => match us, hl with | [_, _, _, _], _ => rfl⟩
theorem Fx.bdx_law_pool (Z : Fx P w K mg base B) : ∃ dv, Vals (([] : List D).map cv) dv ∧ Binds K Z.dx_law_pool.choose px_law_pool dv := ⟨[], .nil, Z.dx_law_pool.choose_spec.bindsN fun _ _ _ _ _ _ us hl => match us, hl with | [_], _ => rfl⟩
theorem Fx.bdx_law_size (Z : Fx P w K mg base B) : ∃ dv, Vals (([] : List D).map cv) dv ∧ Binds K Z.dx_law_size.choose px_law_size dv := ⟨[], .nil, Z.dx_law_size.choose_spec.bindsN fun _ _ _ _ _ _ us hl => match us, hl with | [_, _], _ => rfl⟩
theorem Fx.bdx_law_prize (Z : Fx P w K mg base B) : ∃ dv, Vals (([] : List D).map cv) dv ∧ Binds K Z.dx_law_prize.choose px_law_prize dv := ⟨[], .nil, Z.dx_law_prize.choose_spec.bindsN fun _ _ _ _ _ _ us hl => match us, hl with | [_, _], _ => rfl⟩
theorem Fx.bdx_law_some_blocks (Z : Fx P w K mg base B) : ∃ dv, Vals (([] : List D).map cv) dv ∧ Binds K Z.dx_law_some_blocks.choose px_law_some_blocks dv := ⟨[], .nil, Z.dx_law_some_blocks.choose_spec.bindsN fun _ _ _ _ _ _ us hl => match us, hl with | [_, _], _ => rfl⟩
theorem Fx.bdx_law_sum (Z : Fx P w K mg base B) : ∃ dv, Vals (([] : List D).map cv) dv ∧ Binds K Z.dx_law_sum.choose px_law_sum dv := ⟨[], .nil, Z.dx_law_sum.choose_spec.bindsN fun _ _ _ _ _ _ us hl => match us, hl with | [_, _], _ => rfl⟩
theorem Fx.bdx_law_hand (Z : Fx P w K mg base B) : ∃ dv, Vals (([] : List D).map cv) dv ∧ Binds K Z.dx_law_hand.choose px_law_hand dv := ⟨[], .nil, Z.dx_law_hand.choose_spec.bindsN fun _ _ _ _ _ _ us hl => match us, hl with | [_], _ => rfl⟩
theorem Fx.bdx_law_row_right (Z : Fx P w K mg base B) : ∃ dv, Vals (([] : List D).map cv) dv ∧ Binds K Z.dx_law_row_right.choose px_law_row_right dv := ⟨[], .nil, Z.dx_law_row_right.choose_spec.bindsN fun _ _ _ _ _ _ us hl => match us, hl with | [_, _], _ => rfl⟩
theorem Fx.bdx_law_falls (Z : Fx P w K mg base B) : ∃ dv, Vals (([] : List D).map cv) dv ∧ Binds K Z.dx_law_falls.choose px_law_falls dv := ⟨[], .nil, Z.dx_law_falls.choose_spec.bindsN fun _ _ _ _ _ _ us hl => match us, hl with | [_, _], _ => rfl⟩
theorem Fx.bdx_law_uneven (Z : Fx P w K mg base B) : ∃ dv, Vals (([] : List D).map cv) dv ∧ Binds K Z.dx_law_uneven.choose px_law_uneven dv := ⟨[], .nil, Z.dx_law_uneven.choose_spec.bindsN fun _ _ _ _ _ _ us hl => match us, hl with | [_, _, _], _ => rfl⟩
theorem Fx.bdprize_sum_3 (Z : Fx P w K mg base B) : ∃ dv, Vals (([.int 1] : List D).map cv) dv ∧ Binds K Z.dprize_sum.choose pprize_sum dv := Z.dprize_sum.choose_spec.binds0 3 (by simp) rfl fun D doc pm an cdv ct us ks h1 h2 => match us, h1, ks, h2 with | [_, _, _], _, [_], _ => ⟨_, _, _, _, _, _, rfl, rfl, rfl⟩
theorem Fx.bdx_law_mul (Z : Fx P w K mg base B) : ∃ dv, Vals (([] : List D).map cv) dv ∧ Binds K Z.dx_law_mul.choose px_law_mul dv := ⟨[], .nil, Z.dx_law_mul.choose_spec.bindsN fun _ _ _ _ _ _ us hl => match us, hl with | [_, _], _ => rfl⟩
theorem Fx.bdx_law_doors_k81 (Z : Fx P w K mg base B) : ∃ dv, Vals (([] : List D).map cv) dv ∧ Binds K Z.dx_law_doors_k81.choose px_law_doors_k81 dv := ⟨[], .nil, Z.dx_law_doors_k81.choose_spec.bindsN fun _ _ _ _ _ _ us hl => match us, hl with | [_, _, _], _ => rfl⟩
theorem Fx.kbprize_sum_3_factor (Z : Fx P w K mg base B) : KBd K Z.dprize_sum.choose pprize_sum ["factor"] 3 fun us ws => us ++ ws := ⟨_, _, (Z.dprize_sum.choose_spec.kbinds0 (ps := pprize_sum) 3 ["factor"] [] (fun us _ ws => us ++ ws) (by simp) (by simp) (fun r1 _ r3 => r1.append r3) fun D doc pm an cdv ct us mv ws h1 h2 h3 => match us, h1, mv, h2, ws, h3 with | [_, _, _], _, [], _, [_], _ => rfl).choose_spec, fun B T m H ds vs zs us r1 r2 => r1.append r2⟩
theorem okis_whole (Z : Fx P w K mg base B) : FnOk P w K mg base (L2N.CX P w) 1 (He.fAd K ("is_whole", none)) Z.dis_whole.choose pis_whole (spD B 1 Fis_whole) := by
  refine fn_ok sel0 Z.dis_whole.choose_spec Sis_whole fun cdv A outer s H E hr => ?_
  have G : Good (cxOf (L2N.CX P w) P w K mg base Nis_whole "is_whole" (defScope sis_whole) (He.fAd K ("is_whole", none)) cdv A outer s H E) B := good_of Z.hK Sis_whole.nd hr
  have tk : L2N.Takes (cxOf (L2N.CX P w) P w K mg base Nis_whole "is_whole" (defScope sis_whole) (He.fAd K ("is_whole", none)) cdv A outer s H E) (fun cls d _ H => E cls d H) := L2N.takes_of rfl rfl rfl rfl
  exact (sss_one (ss_ret (ee_andV (ee_isi .int (.inl rfl) G (ee_var 0) Z.b_isinstance Z.b_int (by decide +kernel)) (ee_one (ee_notV (ee_isi .bl (.inr (.inl rfl)) G (ee_var 0) Z.b_isinstance Z.b_bool (by decide +kernel)))))))
theorem okx_ratios_lowest (Z : Fx P w K mg base B) : FnOk P w K mg base (L2N.CX P w) 1 (He.fAd K ("_ratios_lowest", none)) Z.dx_ratios_lowest.choose px_ratios_lowest (spD B 2 Fx_ratios_lowest) := by
  refine fn_ok sel0 Z.dx_ratios_lowest.choose_spec Sx_ratios_lowest fun cdv A outer s H E hr => ?_
  have G : Good (cxOf (L2N.CX P w) P w K mg base Nx_ratios_lowest "_ratios_lowest" (defScope sx_ratios_lowest) (He.fAd K ("_ratios_lowest", none)) cdv A outer s H E) B := good_of Z.hK Sx_ratios_lowest.nd hr
  have tk : L2N.Takes (cxOf (L2N.CX P w) P w K mg base Nx_ratios_lowest "_ratios_lowest" (defScope sx_ratios_lowest) (He.fAd K ("_ratios_lowest", none)) cdv A outer s H E) (fun cls d _ H => E cls d H) := L2N.takes_of rfl rfl rfl rfl
  exact (sss_cons (ss_set 2 G (ee_gcd Z.b_gcd (ea_cons (ee_var 0) (ea_cons (ee_var 1) ea_nil))))
  (sss_cons (ss_if (et_lt (ee_var 1) ee_int) (sss_one (ss_set 2 G (ee_neg (ee_var 2)))) sss_nil)
  (sss_one (ss_ret (ee_tup (ea_cons (ee_fdiv (ee_var 0) (ee_var 2)) (ea_cons (ee_fdiv (ee_var 1) (ee_var 2)) ea_nil)))))))
theorem okfraction_of (Z : Fx P w K mg base B) : FnOk P w K mg base (L2N.CX P w) 3 (He.fAd K ("fraction_of", none)) Z.dfraction_of.choose pfraction_of (spD B 2 Ffraction_of) := by
  refine fn_ok sel0 Z.dfraction_of.choose_spec Sfraction_of fun cdv A outer s H E hr => ?_
  have G : Good (cxOf (L2N.CX P w) P w K mg base Nfraction_of "fraction_of" (defScope sfraction_of) (He.fAd K ("fraction_of", none)) cdv A outer s H E) B := good_of Z.hK Sfraction_of.nd hr
  have tk : L2N.Takes (cxOf (L2N.CX P w) P w K mg base Nfraction_of "fraction_of" (defScope sfraction_of) (He.fAd K ("fraction_of", none)) cdv A outer s H E) (fun cls d _ H => E cls d H) := L2N.takes_of rfl rfl rfl rfl
  exact (sss_cons (ss_if (et_val G (ee_call [] ((okis_whole Z).mono (by decide)) hr Z.gis_whole Z.kis_whole Z.bdis_whole (fun σ => L2N.passAt tk σ) (ea_cons (ee_var 0) ea_nil))) (sss_one (ss_ret (ee_tup (ea_cons (ee_var 0) (ea_cons ee_int ea_nil))))) sss_nil)
  (sss_cons (ss_if ((ew_or (et_not (et_val G (ee_isi2 .tup .lst (.inr (.inr (.inl rfl))) (.inr (.inr (.inr rfl))) G (ee_var 0) Z.b_isinstance Z.b_tuple Z.b_list (by decide +kernel) (by decide +kernel)))) (ew_or1 (et_ne G (ee_len G Z.b_len (ea_cons (ee_var 0) ea_nil)) ee_int)))).et (sss_one (ss_raiseN G tk Z.e_BadFraction (hr.mono (by decide)) (ee_var 1))) sss_nil)
  (sss_cons (ss_asg (ee_var 0) (eg_tup G (egs_cons (eg_name 2 G) (egs_cons (eg_name 3 G) egs_nil))))
  (sss_cons (ss_if ((ew_or (et_not (et_val G (ee_call [] ((okis_whole Z).mono (by decide)) hr Z.gis_whole Z.kis_whole Z.bdis_whole (fun σ => L2N.passAt tk σ) (ea_cons (ee_var 2) ea_nil)))) (ew_or (et_not (et_val G (ee_call [] ((okis_whole Z).mono (by decide)) hr Z.gis_whole Z.kis_whole Z.bdis_whole (fun σ => L2N.passAt tk σ) (ea_cons (ee_var 3) ea_nil)))) (ew_or1 (et_lt (ee_var 3) ee_int))))).et (sss_one (ss_raiseN G tk Z.e_BadFraction (hr.mono (by decide)) (ee_var 1))) sss_nil)
  (sss_one (ss_ret (ee_call [] ((okx_ratios_lowest Z).mono (by decide)) hr Z.gx_ratios_lowest Z.kx_ratios_lowest Z.bdx_ratios_lowest (fun σ => L2N.passAt tk σ) (ea_cons (ee_var 2) (ea_cons (ee_var 3) ea_nil)))))))))
theorem okadded (Z : Fx P w K mg base B) : FnOk P w K mg base (L2N.CX P w) 4 (He.fAd K ("added", none)) Z.dadded.choose padded (spD B 2 Fadded) := by
  refine fn_ok sel0 Z.dadded.choose_spec Sadded fun cdv A outer s H E hr => ?_
  have G : Good (cxOf (L2N.CX P w) P w K mg base Nadded "added" (defScope sadded) (He.fAd K ("added", none)) cdv A outer s H E) B := good_of Z.hK Sadded.nd hr
  have tk : L2N.Takes (cxOf (L2N.CX P w) P w K mg base Nadded "added" (defScope sadded) (He.fAd K ("added", none)) cdv A outer s H E) (fun cls d _ H => E cls d H) := L2N.takes_of rfl rfl rfl rfl
  exact (sss_cons (ss_asg (ee_call [] ((okfraction_of Z).mono (by decide)) hr Z.gfraction_of Z.kfraction_of Z.bdfraction_of (fun σ => L2N.passAt tk σ) (ea_cons (ee_var 0) (ea_cons ee_str ea_nil))) (eg_tup G (egs_cons (eg_name 2 G) (egs_cons (eg_name 3 G) egs_nil))))
  (sss_cons (ss_asg (ee_call [] ((okfraction_of Z).mono (by decide)) hr Z.gfraction_of Z.kfraction_of Z.bdfraction_of (fun σ => L2N.passAt tk σ) (ea_cons (ee_var 1) (ea_cons ee_str ea_nil))) (eg_tup G (egs_cons (eg_name 4 G) (egs_cons (eg_name 5 G) egs_nil))))
  (sss_one (ss_ret (ee_call [] ((okx_ratios_lowest Z).mono (by decide)) hr Z.gx_ratios_lowest Z.kx_ratios_lowest Z.bdx_ratios_lowest (fun σ => L2N.passAt tk σ) (ea_cons (ee_add G.K (ee_mul (ee_var 2) (ee_var 5)) (ee_mul (ee_var 4) (ee_var 3))) (ea_cons (ee_mul (ee_var 3) (ee_var 5)) ea_nil)))))))
theorem oktimes (Z : Fx P w K mg base B) : FnOk P w K mg base (L2N.CX P w) 4 (He.fAd K ("times", none)) Z.dtimes.choose ptimes (spD B 2 Ftimes) := by
  refine fn_ok sel0 Z.dtimes.choose_spec Stimes fun cdv A outer s H E hr => ?_
  have G : Good (cxOf (L2N.CX P w) P w K mg base Ntimes "times" (defScope stimes) (He.fAd K ("times", none)) cdv A outer s H E) B := good_of Z.hK Stimes.nd hr
  have tk : L2N.Takes (cxOf (L2N.CX P w) P w K mg base Ntimes "times" (defScope stimes) (He.fAd K ("times", none)) cdv A outer s H E) (fun cls d _ H => E cls d H) := L2N.takes_of rfl rfl rfl rfl
  exact (sss_cons (ss_asg (ee_call [] ((okfraction_of Z).mono (by decide)) hr Z.gfraction_of Z.kfraction_of Z.bdfraction_of (fun σ => L2N.passAt tk σ) (ea_cons (ee_var 0) (ea_cons ee_str ea_nil))) (eg_tup G (egs_cons (eg_name 2 G) (egs_cons (eg_name 3 G) egs_nil))))
  (sss_cons (ss_asg (ee_call [] ((okfraction_of Z).mono (by decide)) hr Z.gfraction_of Z.kfraction_of Z.bdfraction_of (fun σ => L2N.passAt tk σ) (ea_cons (ee_var 1) (ea_cons ee_str ea_nil))) (eg_tup G (egs_cons (eg_name 4 G) (egs_cons (eg_name 5 G) egs_nil))))
  (sss_one (ss_ret (ee_call [] ((okx_ratios_lowest Z).mono (by decide)) hr Z.gx_ratios_lowest Z.kx_ratios_lowest Z.bdx_ratios_lowest (fun σ => L2N.passAt tk σ) (ea_cons (ee_mul (ee_var 2) (ee_var 4)) (ea_cons (ee_mul (ee_var 3) (ee_var 5)) ea_nil)))))))
theorem okcompare (Z : Fx P w K mg base B) : FnOk P w K mg base (L2N.CX P w) 4 (He.fAd K ("compare", none)) Z.dcompare.choose pcompare (spD B 2 Fcompare) := by
  refine fn_ok sel0 Z.dcompare.choose_spec Scompare fun cdv A outer s H E hr => ?_
  have G : Good (cxOf (L2N.CX P w) P w K mg base Ncompare "compare" (defScope scompare) (He.fAd K ("compare", none)) cdv A outer s H E) B := good_of Z.hK Scompare.nd hr
  have tk : L2N.Takes (cxOf (L2N.CX P w) P w K mg base Ncompare "compare" (defScope scompare) (He.fAd K ("compare", none)) cdv A outer s H E) (fun cls d _ H => E cls d H) := L2N.takes_of rfl rfl rfl rfl
  exact (sss_cons (ss_asg (ee_call [] ((okfraction_of Z).mono (by decide)) hr Z.gfraction_of Z.kfraction_of Z.bdfraction_of (fun σ => L2N.passAt tk σ) (ea_cons (ee_var 0) (ea_cons ee_str ea_nil))) (eg_tup G (egs_cons (eg_name 3 G) (egs_cons (eg_name 4 G) egs_nil))))
  (sss_cons (ss_asg (ee_call [] ((okfraction_of Z).mono (by decide)) hr Z.gfraction_of Z.kfraction_of Z.bdfraction_of (fun σ => L2N.passAt tk σ) (ea_cons (ee_var 1) (ea_cons ee_str ea_nil))) (eg_tup G (egs_cons (eg_name 5 G) (egs_cons (eg_name 6 G) egs_nil))))
  (sss_cons (ss_set 2 G (ee_sub (ee_mul (ee_var 3) (ee_var 6)) (ee_mul (ee_var 5) (ee_var 4))))
  (sss_cons (ss_if (et_eq G (ee_var 2) ee_int) (sss_one (ss_ret ee_int)) sss_nil)
  (sss_one (ss_ret (ee_if (et_gt (ee_var 2) ee_int) ee_int (ee_neg ee_int))))))))
theorem okx_lots_size (Z : Fx P w K mg base B) : FnOk P w K mg base (L2N.CX P w) 3 (He.fAd K ("_lots_size", none)) Z.dx_lots_size.choose px_lots_size (spD B 1 Fx_lots_size) := by
  refine fn_ok sel0 Z.dx_lots_size.choose_spec Sx_lots_size fun cdv A outer s H E hr => ?_
  have G : Good (cxOf (L2N.CX P w) P w K mg base Nx_lots_size "_lots_size" (defScope sx_lots_size) (He.fAd K ("_lots_size", none)) cdv A outer s H E) B := good_of Z.hK Sx_lots_size.nd hr
  have tk : L2N.Takes (cxOf (L2N.CX P w) P w K mg base Nx_lots_size "_lots_size" (defScope sx_lots_size) (He.fAd K ("_lots_size", none)) cdv A outer s H E) (fun cls d _ H => E cls d H) := L2N.takes_of rfl rfl rfl rfl
  exact (sss_one (ss_if ((ew_or (et_not (et_val G (ee_call [] ((okis_whole Z).mono (by decide)) hr Z.gis_whole Z.kis_whole Z.bdis_whole (fun σ => L2N.passAt tk σ) (ea_cons (ee_var 0) ea_nil)))) (ew_or1 (et_not (et_chain op_le op_le o2_le o2_le ee_int (ee_var 0) ee_int))))).et (sss_one (ss_raiseN G tk Z.e_BadNumber (hr.mono (by decide)) ee_str)) sss_nil))
theorem oklot_from (Z : Fx P w K mg base B) : FnOk P w K mg base (L2N.CX P w) 1 (He.fAd K ("lot_from", none)) Z.dlot_from.choose plot_from (spD B 1 Flot_from) := by
  refine fn_ok sel0 Z.dlot_from.choose_spec Slot_from fun cdv A outer s H E hr => ?_
  have G : Good (cxOf (L2N.CX P w) P w K mg base Nlot_from "lot_from" (defScope slot_from) (He.fAd K ("lot_from", none)) cdv A outer s H E) B := good_of Z.hK Slot_from.nd hr
  have tk : L2N.Takes (cxOf (L2N.CX P w) P w K mg base Nlot_from "lot_from" (defScope slot_from) (He.fAd K ("lot_from", none)) cdv A outer s H E) (fun cls d _ H => E cls d H) := L2N.takes_of rfl rfl rfl rfl
  exact (sss_one (ss_ret (ee_tupc G Z.b_tuple (ea_cons (ee_lc [("place", 1)] G (ei_range1 Z.b_range (ee_bits (ee_var 0))) (fun _ _ _ _ _ => (eg_name 1 G.blk)) (fun _ _ _ _ _ => (ets_one (et_val G.blk (ee_and (ee_shr (ee_var 0) (ee_var 1)) ee_int)))) (fun _ _ _ _ _ => (ee_var 1)) (show BlkOk Nlot_from (defScope slot_from) _ _ from blkOk_by (by decide +kernel))) ea_nil))))
theorem okall_lots (Z : Fx P w K mg base B) : FnOk P w K mg base (L2N.CX P w) 4 (He.fAd K ("all_lots", none)) Z.dall_lots.choose pall_lots (spD B 1 Fall_lots) := by
  refine fn_ok sel0 Z.dall_lots.choose_spec Sall_lots fun cdv A outer s H E hr => ?_
  have G : Good (cxOf (L2N.CX P w) P w K mg base Nall_lots "all_lots" (defScope sall_lots) (He.fAd K ("all_lots", none)) cdv A outer s H E) B := good_of Z.hK Sall_lots.nd hr
  have tk : L2N.Takes (cxOf (L2N.CX P w) P w K mg base Nall_lots "all_lots" (defScope sall_lots) (He.fAd K ("all_lots", none)) cdv A outer s H E) (fun cls d _ H => E cls d H) := L2N.takes_of rfl rfl rfl rfl
  exact (sss_cons (ss_expr (ee_call [] ((okx_lots_size Z).mono (by decide)) hr Z.gx_lots_size Z.kx_lots_size Z.bdx_lots_size (fun σ => L2N.passAt tk σ) (ea_cons (ee_var 0) ea_nil)))
  (sss_one (ss_ret (ee_tupc G Z.b_tuple (ea_cons (ee_lc [("number", 1)] G (ei_range1 Z.b_range (ee_shl ee_int (ee_var 0))) (fun _ _ _ _ _ => (eg_name 1 G.blk)) (fun _ _ _ _ _ => ets_nil) (fun _ _ _ _ _ => (ee_call [] ((oklot_from Z).mono (by decide)) hr Z.glot_from Z.klot_from Z.bdlot_from (fun σ => passBN σ) (ea_cons (ee_var 1) ea_nil))) (show BlkOk Nall_lots (defScope sall_lots) _ _ from blkOk_by (by decide +kernel))) ea_nil)))))
theorem okcheck_blocks (Z : Fx P w K mg base B) : FnOk P w K mg base (L2N.CX P w) 3 (He.fAd K ("check_blocks", none)) Z.dcheck_blocks.choose pcheck_blocks (spD B 2 Fcheck_blocks) := by
  refine fn_ok sel0 Z.dcheck_blocks.choose_spec Scheck_blocks fun cdv A outer s H E hr => ?_
  have G : Good (cxOf (L2N.CX P w) P w K mg base Ncheck_blocks "check_blocks" (defScope scheck_blocks) (He.fAd K ("check_blocks", none)) cdv A outer s H E) B := good_of Z.hK Scheck_blocks.nd hr
  have tk : L2N.Takes (cxOf (L2N.CX P w) P w K mg base Ncheck_blocks "check_blocks" (defScope scheck_blocks) (He.fAd K ("check_blocks", none)) cdv A outer s H E) (fun cls d _ H => E cls d H) := L2N.takes_of rfl rfl rfl rfl
  exact (sss_cons (ss_if ((ew_or (et_not (et_val G (ee_call [] ((okis_whole Z).mono (by decide)) hr Z.gis_whole Z.kis_whole Z.bdis_whole (fun σ => L2N.passAt tk σ) (ea_cons (ee_var 1) ea_nil)))) (ew_or1 (et_not (et_chain op_le op_le o2_le o2_le ee_int (ee_var 1) ee_int))))).et (sss_one (ss_raiseN G tk Z.e_BadNumber (hr.mono (by decide)) ee_str)) sss_nil)
  (sss_cons (ss_if (et_not (et_val G (ee_isi2 .tup .lst (.inr (.inr (.inl rfl))) (.inr (.inr (.inr rfl))) G (ee_var 0) Z.b_isinstance Z.b_tuple Z.b_list (by decide +kernel) (by decide +kernel)))) (sss_one (ss_raiseN G tk Z.e_BadBlocks (hr.mono (by decide)) (ee_neg ee_int))) sss_nil)
  (sss_cons (ss_set 2 G (ee_mulC (ee_lstF (ea_cons ee_int ea_nil)) (ee_var 1)))
  (sss_cons (ss_for G (L2.passes_of rfl) (ei_seq G (ee_var 0)) (eg_name 3 G) (sss_cons (ss_if ((ew_or (et_not (et_val G (ee_isi2 .tup .lst (.inr (.inr (.inl rfl))) (.inr (.inr (.inr rfl))) G (ee_var 3) Z.b_isinstance Z.b_tuple Z.b_list (by decide +kernel) (by decide +kernel)))) (ew_or1 (et_not (et_val G (ee_var 3)))))).et (sss_one (ss_raiseN G tk Z.e_BadBlocks (hr.mono (by decide)) (ee_neg ee_int))) sss_nil)
  (sss_one (ss_for G (L2.passes_of rfl) (ei_seq G (ee_var 3)) (eg_name 4 G) (sss_cons (ss_if ((ew_or (et_not (et_val G (ee_call [] ((okis_whole Z).mono (by decide)) hr Z.gis_whole Z.kis_whole Z.bdis_whole (fun σ => L2N.passAt tk σ) (ea_cons (ee_var 4) ea_nil)))) (ew_or1 (et_not (et_chain op_le op_lt o2_le o2_lt ee_int (ee_var 4) (ee_var 1)))))).et (sss_one (ss_raiseN G tk Z.e_BadBlocks (hr.mono (by decide)) (ee_neg ee_int))) sss_nil)
  (sss_one (ss_augS G ip_add o2_ip (ee_var 2) (ee_var 4) ee_int)))))))
  (sss_cons (ss_for G (L2.passes_of rfl) (ei_range1 Z.b_range (ee_var 1)) (eg_name 4 G) (sss_one (ss_if (et_ne G (ee_ix G (ee_var 2) (ee_var 4)) ee_int) (sss_one (ss_raiseN G tk Z.e_BadBlocks (hr.mono (by decide)) (ee_var 4))) sss_nil)))
  (sss_one (ss_ret (ee_tupc G Z.b_tuple (ea_cons (ee_lc [("block", 3)] G (ei_seq G (ee_var 0)) (fun _ _ _ _ _ => (eg_name 3 G.blk)) (fun _ _ _ _ _ => ets_nil) (fun _ _ _ _ _ => (ee_tupc G.blk Z.b_tuple (ea_cons (ee_sortF G.blk Z.b_sorted (ea_cons (ee_var 3) ea_nil)) ea_nil))) (show BlkOk Ncheck_blocks (defScope scheck_blocks) _ _ from blkOk_by (by decide +kernel))) ea_nil)))))))))
theorem okx_prizes_entries (Z : Fx P w K mg base B) : FnOk P w K mg base (L2.CX P w) 4 (He.fAd K ("_prizes_entries", none)) Z.dx_prizes_entries.choose px_prizes_entries (spD B 1 Fx_prizes_entries) := by
  refine fn_ok sel0 Z.dx_prizes_entries.choose_spec Sx_prizes_entries fun cdv A outer s H E hr => ?_
  have G : Good (cxOf (L2.CX P w) P w K mg base Nx_prizes_entries "_prizes_entries" (defScope sx_prizes_entries) (He.fAd K ("_prizes_entries", none)) cdv A outer s H E) B := good_of Z.hK Sx_prizes_entries.nd hr
  have tk : L2.Takes (cxOf (L2.CX P w) P w K mg base Nx_prizes_entries "_prizes_entries" (defScope sx_prizes_entries) (He.fAd K ("_prizes_entries", none)) cdv A outer s H E) (fun cls d _ H => E cls d H) := L2.takes_of rfl rfl rfl rfl
  exact (sss_cons (ss_set 1 G (ee_lstC ea_nil))
  (sss_cons (ss_for G (L2.passes_of rfl) (ei_enum G Z.b_enumerate (ee_var 0)) (eg_tup G (egs_cons (eg_name 2 G) (egs_cons (eg_name 3 G) egs_nil))) (sss_one (ss_tryFrom G tk rfl rfl (L2H.passesAt_of rfl) ⟨rfl, by decide, .inl Z.e_BadFraction.g⟩ Z.x_BadFraction Z.e_BadPrize (hr.mono (by decide)) (fun V pn xe tkV => (sss_one (ss_expr (ee_append (ee_var 1) (ee_call [] ((okfraction_of Z).mono (by decide)) hr Z.gfraction_of Z.kfraction_of Z.bdfraction_of (fun σ => L2N.passAt tkV σ) (ea_cons (ee_var 3) (ea_cons ee_str ea_nil))))))) (fun _ _ => (ee_var 2)))))
  (sss_one (ss_ret (ee_tupc G Z.b_tuple (ea_cons (ee_var 1) ea_nil))))))
theorem okstop_size (Z : Fx P w K mg base B) : FnOk P w K mg base (L2N.CX P w) 3 (He.fAd K ("stop_size", none)) Z.dstop_size.choose pstop_size (spD B 1 Fstop_size) := by
  refine fn_ok sel0 Z.dstop_size.choose_spec Sstop_size fun cdv A outer s H E hr => ?_
  have G : Good (cxOf (L2N.CX P w) P w K mg base Nstop_size "stop_size" (defScope sstop_size) (He.fAd K ("stop_size", none)) cdv A outer s H E) B := good_of Z.hK Sstop_size.nd hr
  have tk : L2N.Takes (cxOf (L2N.CX P w) P w K mg base Nstop_size "stop_size" (defScope sstop_size) (He.fAd K ("stop_size", none)) cdv A outer s H E) (fun cls d _ H => E cls d H) := L2N.takes_of rfl rfl rfl rfl
  exact (sss_one (ss_if ((ew_or (et_not (et_val G (ee_call [] ((okis_whole Z).mono (by decide)) hr Z.gis_whole Z.kis_whole Z.bdis_whole (fun σ => L2N.passAt tk σ) (ea_cons (ee_var 0) ea_nil)))) (ew_or1 (et_not (et_chain op_le op_le o2_le o2_le ee_int (ee_var 0) ee_int))))).et (sss_one (ss_raiseN G tk Z.e_BadNumber (hr.mono (by decide)) ee_str)) sss_nil))
theorem okprize_of (Z : Fx P w K mg base B) : FnOk P w K mg base (L2.CX P w) 5 (He.fAd K ("prize_of", none)) Z.dprize_of.choose pprize_of (spD B 2 Fprize_of) := by
  refine fn_ok sel0 Z.dprize_of.choose_spec Sprize_of fun cdv A outer s H E hr => ?_
  have G : Good (cxOf (L2.CX P w) P w K mg base Nprize_of "prize_of" (defScope sprize_of) (He.fAd K ("prize_of", none)) cdv A outer s H E) B := good_of Z.hK Sprize_of.nd hr
  have tk : L2.Takes (cxOf (L2.CX P w) P w K mg base Nprize_of "prize_of" (defScope sprize_of) (He.fAd K ("prize_of", none)) cdv A outer s H E) (fun cls d _ H => E cls d H) := L2.takes_of rfl rfl rfl rfl
  exact (sss_cons (ss_expr (ee_call [] ((okstop_size Z).mono (by decide)) hr Z.gstop_size Z.kstop_size Z.bdstop_size (fun σ => passNX tk σ) (ea_cons (ee_var 1) ea_nil)))
  (sss_cons (ss_if ((ew_or (et_not (et_val G (ee_isi2 .tup .lst (.inr (.inr (.inl rfl))) (.inr (.inr (.inr rfl))) G (ee_var 0) Z.b_isinstance Z.b_tuple Z.b_list (by decide +kernel) (by decide +kernel)))) (ew_or1 (et_ne G (ee_len G Z.b_len (ea_cons (ee_var 0) ea_nil)) (ee_shl ee_int (ee_var 1)))))).et (sss_one (ss_raise G tk Z.e_BadPrize (hr.mono (by decide)) (ee_neg ee_int))) sss_nil)
  (sss_one (ss_ret (ee_call [] ((okx_prizes_entries Z).mono (by decide)) hr Z.gx_prizes_entries Z.kx_prizes_entries Z.bdx_prizes_entries (fun σ => L2.passAt tk σ) (ea_cons (ee_var 0) ea_nil))))))
theorem okamounts_of (Z : Fx P w K mg base B) : FnOk P w K mg base (L2.CX P w) 5 (He.fAd K ("amounts_of", none)) Z.damounts_of.choose pamounts_of (spD B 1 Famounts_of) := by
  refine fn_ok sel0 Z.damounts_of.choose_spec Samounts_of fun cdv A outer s H E hr => ?_
  have G : Good (cxOf (L2.CX P w) P w K mg base Namounts_of "amounts_of" (defScope samounts_of) (He.fAd K ("amounts_of", none)) cdv A outer s H E) B := good_of Z.hK Samounts_of.nd hr
  have tk : L2.Takes (cxOf (L2.CX P w) P w K mg base Namounts_of "amounts_of" (defScope samounts_of) (He.fAd K ("amounts_of", none)) cdv A outer s H E) (fun cls d _ H => E cls d H) := L2.takes_of rfl rfl rfl rfl
  exact (sss_cons (ss_if ((ew_or (et_not (et_val G (ee_isi2 .tup .lst (.inr (.inr (.inl rfl))) (.inr (.inr (.inr rfl))) G (ee_var 0) Z.b_isinstance Z.b_tuple Z.b_list (by decide +kernel) (by decide +kernel)))) (ew_or1 (et_not (et_chain op_le op_le o2_le o2_le ee_int (ee_len G Z.b_len (ea_cons (ee_var 0) ea_nil)) ee_int))))).et (sss_one (ss_raise G tk Z.e_BadPrize (hr.mono (by decide)) (ee_neg ee_int))) sss_nil)
  (sss_one (ss_ret (ee_call [] ((okx_prizes_entries Z).mono (by decide)) hr Z.gx_prizes_entries Z.kx_prizes_entries Z.bdx_prizes_entries (fun σ => L2.passAt tk σ) (ea_cons (ee_var 0) ea_nil)))))
theorem okby_number (Z : Fx P w K mg base B) : FnOk P w K mg base (L2.CX P w) 6 (He.fAd K ("by_number", none)) Z.dby_number.choose pby_number (spD B 1 Fby_number) := by
  refine fn_ok sel0 Z.dby_number.choose_spec Sby_number fun cdv A outer s H E hr => ?_
  have G : Good (cxOf (L2.CX P w) P w K mg base Nby_number "by_number" (defScope sby_number) (He.fAd K ("by_number", none)) cdv A outer s H E) B := good_of Z.hK Sby_number.nd hr
  have tk : L2.Takes (cxOf (L2.CX P w) P w K mg base Nby_number "by_number" (defScope sby_number) (He.fAd K ("by_number", none)) cdv A outer s H E) (fun cls d _ H => E cls d H) := L2.takes_of rfl rfl rfl rfl
  exact (sss_cons (ss_set 1 G (ee_call [] ((okamounts_of Z).mono (by decide)) hr Z.gamounts_of Z.kamounts_of Z.bdamounts_of (fun σ => L2.passAt tk σ) (ea_cons (ee_var 0) ea_nil)))
  (sss_one (ss_ret (ee_tupc G Z.b_tuple (ea_cons (ee_lc [("lot", 2)] G (ei_seq G (ee_call [] ((okall_lots Z).mono (by decide)) hr Z.gall_lots Z.kall_lots Z.bdall_lots (fun σ => passNX tk σ) (ea_cons (ee_sub (ee_len G Z.b_len (ea_cons (ee_var 1) ea_nil)) ee_int) ea_nil))) (fun _ _ _ _ _ => (eg_name 2 G.blk)) (fun _ _ _ _ _ => ets_nil) (fun _ _ _ _ _ => (ee_ix G.blk (ee_var 1) (ee_len G.blk Z.b_len (ea_cons (ee_var 2) ea_nil)))) (show BlkOk Nby_number (defScope sby_number) _ _ from blkOk_by (by decide +kernel))) ea_nil)))))
theorem okprize_sum (Z : Fx P w K mg base B) : FnOk P w K mg base (L2.CX P w) 6 (He.fAd K ("prize_sum", none)) Z.dprize_sum.choose pprize_sum (spD B 4 Fprize_sum) := by
  refine fn_ok sel0 Z.dprize_sum.choose_spec Sprize_sum fun cdv A outer s H E hr => ?_
  have G : Good (cxOf (L2.CX P w) P w K mg base Nprize_sum "prize_sum" (defScope sprize_sum) (He.fAd K ("prize_sum", none)) cdv A outer s H E) B := good_of Z.hK Sprize_sum.nd hr
  have tk : L2.Takes (cxOf (L2.CX P w) P w K mg base Nprize_sum "prize_sum" (defScope sprize_sum) (He.fAd K ("prize_sum", none)) cdv A outer s H E) (fun cls d _ H => E cls d H) := L2.takes_of rfl rfl rfl rfl
  exact (sss_cons (ss_set 4 G (ee_call [] ((okprize_of Z).mono (by decide)) hr Z.gprize_of Z.kprize_of Z.bdprize_of (fun σ => L2.passAt tk σ) (ea_cons (ee_var 1) (ea_cons (ee_var 0) ea_nil))))
  (sss_cons (ss_set 5 G (ee_call [] ((okprize_of Z).mono (by decide)) hr Z.gprize_of Z.kprize_of Z.bdprize_of (fun σ => L2.passAt tk σ) (ea_cons (ee_var 2) (ea_cons (ee_var 0) ea_nil))))
  (sss_cons (ss_set 6 G (ee_call [] ((okfraction_of Z).mono (by decide)) hr Z.gfraction_of Z.kfraction_of Z.bdfraction_of (fun σ => passNX tk σ) (ea_cons (ee_var 3) (ea_cons ee_str ea_nil))))
  (sss_one (ss_ret (ee_tupc G Z.b_tuple (ea_cons (ee_lc [("x", 7), ("y", 8)] G (ei_zip G Z.b_zip (ee_var 4) (ee_var 5)) (fun _ _ _ _ _ => (eg_tup G.blk (egs_cons (eg_name 7 G.blk) (egs_cons (eg_name 8 G.blk) egs_nil)))) (fun _ _ _ _ _ => ets_nil) (fun _ _ _ _ _ => (ee_call [] ((okadded Z).mono (by decide)) hr Z.gadded Z.kadded Z.bdadded (fun σ => passBN σ) (ea_cons (ee_call [] ((oktimes Z).mono (by decide)) hr Z.gtimes Z.ktimes Z.bdtimes (fun σ => passBN σ) (ea_cons (ee_var 6) (ea_cons (ee_var 7) ea_nil))) (ea_cons (ee_var 8) ea_nil)))) (show BlkOk Nprize_sum (defScope sprize_sum) _ _ from blkOk_by (by decide +kernel))) ea_nil)))))))
theorem okrising_break (Z : Fx P w K mg base B) : FnOk P w K mg base (L2.CX P w) 6 (He.fAd K ("rising_break", none)) Z.drising_break.choose prising_break (spD B 2 Frising_break) := by
  refine fn_ok sel0 Z.drising_break.choose_spec Srising_break fun cdv A outer s H E hr => ?_
  have G : Good (cxOf (L2.CX P w) P w K mg base Nrising_break "rising_break" (defScope srising_break) (He.fAd K ("rising_break", none)) cdv A outer s H E) B := good_of Z.hK Srising_break.nd hr
  have tk : L2.Takes (cxOf (L2.CX P w) P w K mg base Nrising_break "rising_break" (defScope srising_break) (He.fAd K ("rising_break", none)) cdv A outer s H E) (fun cls d _ H => E cls d H) := L2.takes_of rfl rfl rfl rfl
  exact (sss_cons (ss_set 2 G (ee_call [] ((okprize_of Z).mono (by decide)) hr Z.gprize_of Z.kprize_of Z.bdprize_of (fun σ => L2.passAt tk σ) (ea_cons (ee_var 0) (ea_cons (ee_var 1) ea_nil))))
  (sss_cons (ss_for G (L2.passes_of rfl) (ei_range1 Z.b_range (ee_shl ee_int (ee_var 1))) (eg_name 3 G) (sss_one (ss_for G (L2.passes_of rfl) (ei_range1 Z.b_range (ee_var 1)) (eg_name 4 G) (sss_cons (ss_if (et_val G (ee_and (ee_shr (ee_var 3) (ee_var 4)) ee_int)) (sss_one ss_cont) sss_nil)
  (sss_one (ss_if (et_lt (ee_call [] ((okcompare Z).mono (by decide)) hr Z.gcompare Z.kcompare Z.bdcompare (fun σ => passNX tk σ) (ea_cons (ee_ix G (ee_var 2) (ee_or (ee_var 3) (ee_shl ee_int (ee_var 4)))) (ea_cons (ee_ix G (ee_var 2) (ee_var 3)) ea_nil))) ee_int) (sss_one (ss_ret (ee_tup (ea_cons (ee_call [] ((oklot_from Z).mono (by decide)) hr Z.glot_from Z.klot_from Z.bdlot_from (fun σ => passNX tk σ) (ea_cons (ee_var 3) ea_nil)) (ea_cons (ee_var 4) ea_nil))))) sss_nil))))))
  (sss_one (ss_ret ee_non))))
theorem okcounts_of (Z : Fx P w K mg base B) : FnOk P w K mg base (L2N.CX P w) 1 (He.fAd K ("counts_of", none)) Z.dcounts_of.choose pcounts_of (spD B 2 Fcounts_of) := by
  refine fn_ok sel0 Z.dcounts_of.choose_spec Scounts_of fun cdv A outer s H E hr => ?_
  have G : Good (cxOf (L2N.CX P w) P w K mg base Ncounts_of "counts_of" (defScope scounts_of) (He.fAd K ("counts_of", none)) cdv A outer s H E) B := good_of Z.hK Scounts_of.nd hr
  have tk : L2N.Takes (cxOf (L2N.CX P w) P w K mg base Ncounts_of "counts_of" (defScope scounts_of) (He.fAd K ("counts_of", none)) cdv A outer s H E) (fun cls d _ H => E cls d H) := L2N.takes_of rfl rfl rfl rfl
  exact (sss_one (ss_ret (ee_tupc G Z.b_tuple (ea_cons (ee_lc [("block", 2)] G (ei_seq G (ee_var 0)) (fun _ _ _ _ _ => (eg_name 2 G.blk)) (fun _ _ _ _ _ => ets_nil) (fun _ _ _ _ _ => (ee_sum G.blk Z.b_sum (ea_cons (ee_lc [("place", 3)] G.blk (ei_seq G.blk (ee_var 2)) (fun _ _ _ _ _ => (eg_name 3 (G.blk).blk)) (fun _ _ _ _ _ => ets_nil) (fun _ _ _ _ _ => (ee_and (ee_shr (ee_var 1) (ee_var 3)) ee_int)) (show BlkOk Ncounts_of (relS _ (defScope scounts_of)) _ _ from blkOk_by (by decide +kernel))) ea_nil))) (show BlkOk Ncounts_of (defScope scounts_of) _ _ from blkOk_by (by decide +kernel))) ea_nil))))
theorem okcounts_break (Z : Fx P w K mg base B) : FnOk P w K mg base (L2.CX P w) 6 (He.fAd K ("counts_break", none)) Z.dcounts_break.choose pcounts_break (spD B 3 Fcounts_break) := by
  refine fn_ok sel0 Z.dcounts_break.choose_spec Scounts_break fun cdv A outer s H E hr => ?_
  have G : Good (cxOf (L2.CX P w) P w K mg base Ncounts_break "counts_break" (defScope scounts_break) (He.fAd K ("counts_break", none)) cdv A outer s H E) B := good_of Z.hK Scounts_break.nd hr
  have tk : L2.Takes (cxOf (L2.CX P w) P w K mg base Ncounts_break "counts_break" (defScope scounts_break) (He.fAd K ("counts_break", none)) cdv A outer s H E) (fun cls d _ H => E cls d H) := L2.takes_of rfl rfl rfl rfl
  exact (sss_cons (ss_set 3 G (ee_call [] ((okprize_of Z).mono (by decide)) hr Z.gprize_of Z.kprize_of Z.bdprize_of (fun σ => L2.passAt tk σ) (ea_cons (ee_var 0) (ea_cons (ee_var 2) ea_nil))))
  (sss_cons (ss_set 4 G (ee_call [] ((okcheck_blocks Z).mono (by decide)) hr Z.gcheck_blocks Z.kcheck_blocks Z.bdcheck_blocks (fun σ => passNX tk σ) (ea_cons (ee_var 1) (ea_cons (ee_var 2) ea_nil))))
  (sss_cons (ss_set 5 G ee_dnewT)
  (sss_cons (ss_for G (L2.passes_of rfl) (ei_range1 Z.b_range (ee_shl ee_int (ee_var 2))) (eg_name 6 G) (sss_cons (ss_set 7 G (ee_setdT G (ee_var 5) (ee_call [] ((okcounts_of Z).mono (by decide)) hr Z.gcounts_of Z.kcounts_of Z.bdcounts_of (fun σ => passNX tk σ) (ea_cons (ee_var 4) (ea_cons (ee_var 6) ea_nil))) (ee_var 6)))
  (sss_one (ss_if (et_ne G (ee_ix G (ee_var 3) (ee_var 6)) (ee_ix G (ee_var 3) (ee_var 7))) (sss_one (ss_ret (ee_tup (ea_cons (ee_call [] ((oklot_from Z).mono (by decide)) hr Z.glot_from Z.klot_from Z.bdlot_from (fun σ => passNX tk σ) (ea_cons (ee_var 7) ea_nil)) (ea_cons (ee_call [] ((oklot_from Z).mono (by decide)) hr Z.glot_from Z.klot_from Z.bdlot_from (fun σ => passNX tk σ) (ea_cons (ee_var 6) ea_nil)) ea_nil))))) sss_nil))))
  (sss_one (ss_ret ee_non))))))
theorem okx_law_pool (Z : Fx P w K mg base B) : FnOk P w K mg base (L2N.CX P w) 1 (He.fAd K ("_law_pool", none)) Z.dx_law_pool.choose px_law_pool (spD B 1 Fx_law_pool) := by
  refine fn_ok sel1 Z.dx_law_pool.choose_spec Sx_law_pool fun cdv A outer s H E hr => ?_
  have G : Good (cxOf (L2N.CX P w) P w K mg base Nx_law_pool "_law_pool" (defScope sx_law_pool) (He.fAd K ("_law_pool", none)) cdv A outer s H E) B := good_of Z.hK Sx_law_pool.nd hr
  have tk : L2N.Takes (cxOf (L2N.CX P w) P w K mg base Nx_law_pool "_law_pool" (defScope sx_law_pool) (He.fAd K ("_law_pool", none)) cdv A outer s H E) (fun cls d _ H => E cls d H) := L2N.takes_of rfl rfl rfl rfl
  exact (sss_cons (ss_set 1 G (ee_lstC ea_nil))
  (sss_cons (ss_for G (L2.passes_of rfl) (ei_range1 Z.b_range (ee_min2 G Z.b_min (ea_cons ee_int (ea_cons (ee_len G Z.b_len (ea_cons (ee_var 0) ea_nil)) ea_nil)))) (eg_name 2 G) (sss_cons (ss_set 3 G (ee_intc Z.b_int (ea_cons (ee_ix G (ee_var 0) (ee_var 2)) ea_nil)))
  (sss_cons (ss_if (et_lt (ee_var 3) ee_int) (sss_one (ss_set 3 G (ee_sub ee_int (ee_mul ee_int (ee_var 3))))) sss_nil)
  (sss_one (ss_if (et_ge (ee_var 3) (ee_pow ee_int ee_int)) (sss_one (ss_for G (L2.passes_of rfl) (ei_range1 Z.b_range ee_int) (eg_name 4 G) (sss_one (ss_if (et_gt (ee_var 3) ee_int) (sss_cons (ss_expr (ee_append (ee_var 1) (ee_mod (ee_intc Z.b_int (ea_cons (ee_var 3) ea_nil)) ee_int)))
  (sss_one (ss_set 3 G (ee_fdiv (ee_var 3) ee_int)))) sss_nil)))) (sss_cons (ss_set 5 G (ee_mod (ee_intc Z.b_int (ea_cons (ee_add G.K (ee_add G.K (ee_mul (ee_var 3) ee_int) (ee_mul (ee_var 2) ee_int)) ee_int) ea_nil)) ee_int))
  (sss_one (ss_for G (L2.passes_of rfl) (ei_range1 Z.b_range ee_int) (eg_name 4 G) (sss_cons (ss_set 5 G (ee_mod (ee_intc Z.b_int (ea_cons (ee_add G.K (ee_add G.K (ee_mul (ee_var 5) (ee_var 5)) (ee_mul (ee_add G.K (ee_var 4) ee_int) ee_int)) (ee_var 3)) ea_nil)) ee_int))
  (sss_cons (ss_set 5 G (ee_mod (ee_intc Z.b_int (ea_cons (ee_add G.K (ee_add G.K (ee_mul (ee_var 5) ee_int) (ee_var 2)) (ee_var 4)) ea_nil)) ee_int))
  (sss_one (ss_expr (ee_append (ee_var 1) (ee_fdiv (ee_var 5) ee_int))))))))))))))
  (sss_cons (ss_expr (ee_reverse (ee_var 1)))
  (sss_one (ss_ret (ee_var 1))))))
theorem okx_law_pick (Z : Fx P w K mg base B) : FnOk P w K mg base (L2N.CX P w) 1 (He.fAd K ("_law_pick", none)) Z.dx_law_pick.choose px_law_pick (spD B 2 Fx_law_pick) := by
  refine fn_ok sel0 Z.dx_law_pick.choose_spec Sx_law_pick fun cdv A outer s H E hr => ?_
  have G : Good (cxOf (L2N.CX P w) P w K mg base Nx_law_pick "_law_pick" (defScope sx_law_pick) (He.fAd K ("_law_pick", none)) cdv A outer s H E) B := good_of Z.hK Sx_law_pick.nd hr
  have tk : L2N.Takes (cxOf (L2N.CX P w) P w K mg base Nx_law_pick "_law_pick" (defScope sx_law_pick) (He.fAd K ("_law_pick", none)) cdv A outer s H E) (fun cls d _ H => E cls d H) := L2N.takes_of rfl rfl rfl rfl
  exact (sss_cons (ss_if (et_eq G (ee_len G Z.b_len (ea_cons (ee_var 0) ea_nil)) ee_int) (sss_one (ss_ret ee_int)) sss_nil)
  (sss_one (ss_ret (ee_mod (ee_intc Z.b_int (ea_cons (ee_pop (ee_var 0)) ea_nil)) (ee_var 1)))))
theorem okx_law_size (Z : Fx P w K mg base B) : FnOk P w K mg base (L2N.CX P w) 2 (He.fAd K ("_law_size", none)) Z.dx_law_size.choose px_law_size (spD B 2 Fx_law_size) := by
  refine fn_ok sel0 Z.dx_law_size.choose_spec Sx_law_size fun cdv A outer s H E hr => ?_
  have G : Good (cxOf (L2N.CX P w) P w K mg base Nx_law_size "_law_size" (defScope sx_law_size) (He.fAd K ("_law_size", none)) cdv A outer s H E) B := good_of Z.hK Sx_law_size.nd hr
  have tk : L2N.Takes (cxOf (L2N.CX P w) P w K mg base Nx_law_size "_law_size" (defScope sx_law_size) (He.fAd K ("_law_size", none)) cdv A outer s H E) (fun cls d _ H => E cls d H) := L2N.takes_of rfl rfl rfl rfl
  exact (sss_one (ss_ret (ee_min2 G Z.b_min (ea_cons (ee_var 1) (ea_cons (ee_ix G (ee_lstF (ea_cons ee_int (ea_cons ee_int (ea_cons ee_int (ea_cons ee_int (ea_cons ee_int (ea_cons ee_int (ea_cons ee_int (ea_cons ee_int ea_nil))))))))) (ee_call [] ((okx_law_pick Z).mono (by decide)) hr Z.gx_law_pick Z.kx_law_pick Z.bdx_law_pick (fun σ => L2N.passAt tk σ) (ea_cons (ee_var 0) (ea_cons ee_int ea_nil)))) ea_nil)))))
theorem okx_law_lots (Z : Fx P w K mg base B) : FnOk P w K mg base (L2N.CX P w) 1 (He.fAd K ("_law_lots", none)) Z.dx_law_lots.choose px_law_lots (spD B 1 Fx_law_lots) := by
  refine fn_ok sel0 Z.dx_law_lots.choose_spec Sx_law_lots fun cdv A outer s H E hr => ?_
  have G : Good (cxOf (L2N.CX P w) P w K mg base Nx_law_lots "_law_lots" (defScope sx_law_lots) (He.fAd K ("_law_lots", none)) cdv A outer s H E) B := good_of Z.hK Sx_law_lots.nd hr
  have tk : L2N.Takes (cxOf (L2N.CX P w) P w K mg base Nx_law_lots "_law_lots" (defScope sx_law_lots) (He.fAd K ("_law_lots", none)) cdv A outer s H E) (fun cls d _ H => E cls d H) := L2N.takes_of rfl rfl rfl rfl
  exact (sss_cons (ss_set 1 G (ee_lstF (ea_cons (ee_lstF ea_nil) ea_nil)))
  (sss_cons (ss_for G (L2.passes_of rfl) (ei_range1 Z.b_range (ee_var 0)) (eg_name 2 G) (sss_one (ss_set 1 G (ee_add G.K (ee_var 1) (ee_lc [("lot", 3)] G (ei_seq G (ee_var 1)) (fun _ _ _ _ _ => (eg_name 3 G.blk)) (fun _ _ _ _ _ => ets_nil) (fun _ _ _ _ _ => (ee_add G.blk.K (ee_var 3) (ee_lstF (ea_cons (ee_var 2) ea_nil)))) (show BlkOk Nx_law_lots (defScope sx_law_lots) _ _ from blkOk_by (by decide +kernel)))))))
  (sss_one (ss_ret (ee_var 1)))))
theorem okx_law_number (Z : Fx P w K mg base B) : FnOk P w K mg base (L2N.CX P w) 1 (He.fAd K ("_law_number", none)) Z.dx_law_number.choose px_law_number (spD B 1 Fx_law_number) := by
  refine fn_ok sel0 Z.dx_law_number.choose_spec Sx_law_number fun cdv A outer s H E hr => ?_
  have G : Good (cxOf (L2N.CX P w) P w K mg base Nx_law_number "_law_number" (defScope sx_law_number) (He.fAd K ("_law_number", none)) cdv A outer s H E) B := good_of Z.hK Sx_law_number.nd hr
  have tk : L2N.Takes (cxOf (L2N.CX P w) P w K mg base Nx_law_number "_law_number" (defScope sx_law_number) (He.fAd K ("_law_number", none)) cdv A outer s H E) (fun cls d _ H => E cls d H) := L2N.takes_of rfl rfl rfl rfl
  exact (sss_cons (ss_set 1 G ee_int)
  (sss_cons (ss_for G (L2.passes_of rfl) (ei_seq G (ee_var 0)) (eg_name 2 G) (sss_one (ss_set 1 G (ee_add G.K (ee_var 1) (ee_ix G (ee_lstF (ea_cons ee_int (ea_cons ee_int (ea_cons ee_int (ea_cons ee_int (ea_cons ee_int (ea_cons ee_int ea_nil))))))) (ee_var 2))))))
  (sss_one (ss_ret (ee_var 1)))))
theorem okx_law_gcd (Z : Fx P w K mg base B) : FnOk P w K mg base (L2N.CX P w) 1 (He.fAd K ("_law_gcd", none)) Z.dx_law_gcd.choose px_law_gcd (spD B 2 Fx_law_gcd) := by
  refine fn_ok sel0 Z.dx_law_gcd.choose_spec Sx_law_gcd fun cdv A outer s H E hr => ?_
  have G : Good (cxOf (L2N.CX P w) P w K mg base Nx_law_gcd "_law_gcd" (defScope sx_law_gcd) (He.fAd K ("_law_gcd", none)) cdv A outer s H E) B := good_of Z.hK Sx_law_gcd.nd hr
  have tk : L2N.Takes (cxOf (L2N.CX P w) P w K mg base Nx_law_gcd "_law_gcd" (defScope sx_law_gcd) (He.fAd K ("_law_gcd", none)) cdv A outer s H E) (fun cls d _ H => E cls d H) := L2N.takes_of rfl rfl rfl rfl
  exact (sss_cons (ss_set 0 G (ee_abs Z.b_abs (ea_cons (ee_var 0) ea_nil)))
  (sss_cons (ss_set 1 G (ee_abs Z.b_abs (ea_cons (ee_var 1) ea_nil)))
  (sss_cons (ss_for G (L2.passes_of rfl) (ei_range1 Z.b_range (ee_add G.K (ee_mul ee_int (ee_max2 G Z.b_max (ea_cons (ee_bits (ee_var 0)) (ea_cons (ee_bits (ee_var 1)) ea_nil)))) ee_int)) (eg_name 2 G) (sss_one (ss_if (et_gt (ee_var 1) ee_int) (sss_cons (ss_set 3 G (ee_mod (ee_intc Z.b_int (ea_cons (ee_var 0) ea_nil)) (ee_var 1)))
  (sss_cons (ss_set 0 G (ee_var 1))
  (sss_one (ss_set 1 G (ee_var 3))))) sss_nil)))
  (sss_one (ss_ret (ee_var 0))))))
theorem okx_law_int (Z : Fx P w K mg base B) : FnOk P w K mg base (L2N.CX P w) 1 (He.fAd K ("_law_int", none)) Z.dx_law_int.choose px_law_int (spD B 1 Fx_law_int) := by
  refine fn_ok sel0 Z.dx_law_int.choose_spec Sx_law_int fun cdv A outer s H E hr => ?_
  have G : Good (cxOf (L2N.CX P w) P w K mg base Nx_law_int "_law_int" (defScope sx_law_int) (He.fAd K ("_law_int", none)) cdv A outer s H E) B := good_of Z.hK Sx_law_int.nd hr
  have tk : L2N.Takes (cxOf (L2N.CX P w) P w K mg base Nx_law_int "_law_int" (defScope sx_law_int) (He.fAd K ("_law_int", none)) cdv A outer s H E) (fun cls d _ H => E cls d H) := L2N.takes_of rfl rfl rfl rfl
  exact (sss_one (ss_ret (ee_andV (ee_isi .int (.inl rfl) G (ee_var 0) Z.b_isinstance Z.b_int (by decide +kernel)) (ee_one (ee_notV (ee_isi .bl (.inr (.inl rfl)) G (ee_var 0) Z.b_isinstance Z.b_bool (by decide +kernel)))))))
theorem okx_law_right (Z : Fx P w K mg base B) : FnOk P w K mg base (L2N.CX P w) 2 (He.fAd K ("_law_right", none)) Z.dx_law_right.choose px_law_right (spD B 1 Fx_law_right) := by
  refine fn_ok sel0 Z.dx_law_right.choose_spec Sx_law_right fun cdv A outer s H E hr => ?_
  have G : Good (cxOf (L2N.CX P w) P w K mg base Nx_law_right "_law_right" (defScope sx_law_right) (He.fAd K ("_law_right", none)) cdv A outer s H E) B := good_of Z.hK Sx_law_right.nd hr
  have tk : L2N.Takes (cxOf (L2N.CX P w) P w K mg base Nx_law_right "_law_right" (defScope sx_law_right) (He.fAd K ("_law_right", none)) cdv A outer s H E) (fun cls d _ H => E cls d H) := L2N.takes_of rfl rfl rfl rfl
  exact (sss_cons (ss_if ((ew_or (et_not (et_val G (ee_isi .tup (.inr (.inr (.inl rfl))) G (ee_var 0) Z.b_isinstance Z.b_tuple (by decide +kernel)))) (ew_or1 (et_ne G (ee_len G Z.b_len (ea_cons (ee_var 0) ea_nil)) ee_int)))).et (sss_one (ss_ret ee_bl)) sss_nil)
  (sss_cons (ss_if ((ew_or (et_not (et_val G (ee_call [] ((okx_law_int Z).mono (by decide)) hr Z.gx_law_int Z.kx_law_int Z.bdx_law_int (fun σ => L2N.passAt tk σ) (ea_cons (ee_ix G (ee_var 0) ee_int) ea_nil)))) (ew_or (et_not (et_val G (ee_call [] ((okx_law_int Z).mono (by decide)) hr Z.gx_law_int Z.kx_law_int Z.bdx_law_int (fun σ => L2N.passAt tk σ) (ea_cons (ee_ix G (ee_var 0) ee_int) ea_nil)))) (ew_or1 (et_lt (ee_ix G (ee_var 0) ee_int) ee_int))))).et (sss_one (ss_ret ee_bl)) sss_nil)
  (sss_one (ss_ret (ee_eq G (ee_call [] ((okx_law_gcd Z).mono (by decide)) hr Z.gx_law_gcd Z.kx_law_gcd Z.bdx_law_gcd (fun σ => L2N.passAt tk σ) (ea_cons (ee_ix G (ee_var 0) ee_int) (ea_cons (ee_ix G (ee_var 0) ee_int) ea_nil))) ee_int)))))
theorem okx_law_low (Z : Fx P w K mg base B) : FnOk P w K mg base (L2N.CX P w) 2 (He.fAd K ("_law_low", none)) Z.dx_law_low.choose px_law_low (spD B 2 Fx_law_low) := by
  refine fn_ok sel0 Z.dx_law_low.choose_spec Sx_law_low fun cdv A outer s H E hr => ?_
  have G : Good (cxOf (L2N.CX P w) P w K mg base Nx_law_low "_law_low" (defScope sx_law_low) (He.fAd K ("_law_low", none)) cdv A outer s H E) B := good_of Z.hK Sx_law_low.nd hr
  have tk : L2N.Takes (cxOf (L2N.CX P w) P w K mg base Nx_law_low "_law_low" (defScope sx_law_low) (He.fAd K ("_law_low", none)) cdv A outer s H E) (fun cls d _ H => E cls d H) := L2N.takes_of rfl rfl rfl rfl
  exact (sss_cons (ss_if (et_lt (ee_var 1) ee_int) (sss_cons (ss_set 0 G (ee_neg (ee_var 0)))
  (sss_one (ss_set 1 G (ee_neg (ee_var 1))))) sss_nil)
  (sss_cons (ss_set 2 G (ee_max2 G Z.b_max (ea_cons ee_int (ea_cons (ee_call [] ((okx_law_gcd Z).mono (by decide)) hr Z.gx_law_gcd Z.kx_law_gcd Z.bdx_law_gcd (fun σ => L2N.passAt tk σ) (ea_cons (ee_var 0) (ea_cons (ee_var 1) ea_nil))) ea_nil))))
  (sss_one (ss_ret (ee_tup (ea_cons (ee_fdiv (ee_var 0) (ee_var 2)) (ea_cons (ee_fdiv (ee_var 1) (ee_var 2)) ea_nil)))))))
theorem okx_law_sum (Z : Fx P w K mg base B) : FnOk P w K mg base (L2N.CX P w) 3 (He.fAd K ("_law_sum", none)) Z.dx_law_sum.choose px_law_sum (spD B 2 Fx_law_sum) := by
  refine fn_ok sel0 Z.dx_law_sum.choose_spec Sx_law_sum fun cdv A outer s H E hr => ?_
  have G : Good (cxOf (L2N.CX P w) P w K mg base Nx_law_sum "_law_sum" (defScope sx_law_sum) (He.fAd K ("_law_sum", none)) cdv A outer s H E) B := good_of Z.hK Sx_law_sum.nd hr
  have tk : L2N.Takes (cxOf (L2N.CX P w) P w K mg base Nx_law_sum "_law_sum" (defScope sx_law_sum) (He.fAd K ("_law_sum", none)) cdv A outer s H E) (fun cls d _ H => E cls d H) := L2N.takes_of rfl rfl rfl rfl
  exact (sss_one (ss_ret (ee_call [] ((okx_law_low Z).mono (by decide)) hr Z.gx_law_low Z.kx_law_low Z.bdx_law_low (fun σ => L2N.passAt tk σ) (ea_cons (ee_add G.K (ee_mul (ee_ix G (ee_var 0) ee_int) (ee_ix G (ee_var 1) ee_int)) (ee_mul (ee_ix G (ee_var 1) ee_int) (ee_ix G (ee_var 0) ee_int))) (ea_cons (ee_mul (ee_ix G (ee_var 0) ee_int) (ee_ix G (ee_var 1) ee_int)) ea_nil)))))
theorem okx_law_mul (Z : Fx P w K mg base B) : FnOk P w K mg base (L2N.CX P w) 3 (He.fAd K ("_law_mul", none)) Z.dx_law_mul.choose px_law_mul (spD B 2 Fx_law_mul) := by
  refine fn_ok sel0 Z.dx_law_mul.choose_spec Sx_law_mul fun cdv A outer s H E hr => ?_
  have G : Good (cxOf (L2N.CX P w) P w K mg base Nx_law_mul "_law_mul" (defScope sx_law_mul) (He.fAd K ("_law_mul", none)) cdv A outer s H E) B := good_of Z.hK Sx_law_mul.nd hr
  have tk : L2N.Takes (cxOf (L2N.CX P w) P w K mg base Nx_law_mul "_law_mul" (defScope sx_law_mul) (He.fAd K ("_law_mul", none)) cdv A outer s H E) (fun cls d _ H => E cls d H) := L2N.takes_of rfl rfl rfl rfl
  exact (sss_one (ss_ret (ee_call [] ((okx_law_low Z).mono (by decide)) hr Z.gx_law_low Z.kx_law_low Z.bdx_law_low (fun σ => L2N.passAt tk σ) (ea_cons (ee_mul (ee_ix G (ee_var 0) ee_int) (ee_ix G (ee_var 1) ee_int)) (ea_cons (ee_mul (ee_ix G (ee_var 0) ee_int) (ee_ix G (ee_var 1) ee_int)) ea_nil)))))
theorem okx_law_row_right (Z : Fx P w K mg base B) : FnOk P w K mg base (L2N.CX P w) 3 (He.fAd K ("_law_row_right", none)) Z.dx_law_row_right.choose px_law_row_right (spD B 2 Fx_law_row_right) := by
  refine fn_ok sel0 Z.dx_law_row_right.choose_spec Sx_law_row_right fun cdv A outer s H E hr => ?_
  have G : Good (cxOf (L2N.CX P w) P w K mg base Nx_law_row_right "_law_row_right" (defScope sx_law_row_right) (He.fAd K ("_law_row_right", none)) cdv A outer s H E) B := good_of Z.hK Sx_law_row_right.nd hr
  have tk : L2N.Takes (cxOf (L2N.CX P w) P w K mg base Nx_law_row_right "_law_row_right" (defScope sx_law_row_right) (He.fAd K ("_law_row_right", none)) cdv A outer s H E) (fun cls d _ H => E cls d H) := L2N.takes_of rfl rfl rfl rfl
  exact (sss_cons (ss_if ((ew_or (et_not (et_val G (ee_isi .tup (.inr (.inr (.inl rfl))) G (ee_var 0) Z.b_isinstance Z.b_tuple (by decide +kernel)))) (ew_or1 (et_ne G (ee_len G Z.b_len (ea_cons (ee_var 0) ea_nil)) (ee_var 1))))).et (sss_one (ss_ret ee_bl)) sss_nil)
  (sss_cons (ss_for G (L2.passes_of rfl) (ei_seq G (ee_var 0)) (eg_name 2 G) (sss_one (ss_if (et_not (et_val G (ee_call [] ((okx_law_right Z).mono (by decide)) hr Z.gx_law_right Z.kx_law_right Z.bdx_law_right (fun σ => L2N.passAt tk σ) (ea_cons (ee_var 2) ea_nil)))) (sss_one (ss_ret ee_bl)) sss_nil)))
  (sss_one (ss_ret ee_bl))))
theorem okx_law_under (Z : Fx P w K mg base B) : FnOk P w K mg base (L2N.CX P w) 1 (He.fAd K ("_law_under", none)) Z.dx_law_under.choose px_law_under (spD B 2 Fx_law_under) := by
  refine fn_ok sel0 Z.dx_law_under.choose_spec Sx_law_under fun cdv A outer s H E hr => ?_
  have G : Good (cxOf (L2N.CX P w) P w K mg base Nx_law_under "_law_under" (defScope sx_law_under) (He.fAd K ("_law_under", none)) cdv A outer s H E) B := good_of Z.hK Sx_law_under.nd hr
  have tk : L2N.Takes (cxOf (L2N.CX P w) P w K mg base Nx_law_under "_law_under" (defScope sx_law_under) (He.fAd K ("_law_under", none)) cdv A outer s H E) (fun cls d _ H => E cls d H) := L2N.takes_of rfl rfl rfl rfl
  exact (sss_one (ss_ret (ee_lt (ee_mul (ee_ix G (ee_var 0) ee_int) (ee_ix G (ee_var 1) ee_int)) (ee_mul (ee_ix G (ee_var 1) ee_int) (ee_ix G (ee_var 0) ee_int)))))
theorem okx_law_prize (Z : Fx P w K mg base B) : FnOk P w K mg base (L2N.CX P w) 3 (He.fAd K ("_law_prize", none)) Z.dx_law_prize.choose px_law_prize (spD B 2 Fx_law_prize) := by
  refine fn_ok sel1 Z.dx_law_prize.choose_spec Sx_law_prize fun cdv A outer s H E hr => ?_
  have G : Good (cxOf (L2N.CX P w) P w K mg base Nx_law_prize "_law_prize" (defScope sx_law_prize) (He.fAd K ("_law_prize", none)) cdv A outer s H E) B := good_of Z.hK Sx_law_prize.nd hr
  have tk : L2N.Takes (cxOf (L2N.CX P w) P w K mg base Nx_law_prize "_law_prize" (defScope sx_law_prize) (He.fAd K ("_law_prize", none)) cdv A outer s H E) (fun cls d _ H => E cls d H) := L2N.takes_of rfl rfl rfl rfl
  exact (sss_cons (ss_set 2 G (ee_call [] ((okx_law_pick Z).mono (by decide)) hr Z.gx_law_pick Z.kx_law_pick Z.bdx_law_pick (fun σ => L2N.passAt tk σ) (ea_cons (ee_var 0) (ea_cons ee_int ea_nil))))
  (sss_cons (ss_set 3 G (ee_lstC ea_nil))
  (sss_cons (ss_for G (L2.passes_of rfl) (ei_range1 Z.b_range (ee_len G Z.b_len (ea_cons (ee_call [] ((okx_law_lots Z).mono (by decide)) hr Z.gx_law_lots Z.kx_law_lots Z.bdx_law_lots (fun σ => L2N.passAt tk σ) (ea_cons (ee_var 1) ea_nil)) ea_nil))) (eg_name 4 G) (sss_cons (ss_set 5 G (ee_call [] ((okx_law_pick Z).mono (by decide)) hr Z.gx_law_pick Z.kx_law_pick Z.bdx_law_pick (fun σ => L2N.passAt tk σ) (ea_cons (ee_var 0) (ea_cons ee_int ea_nil))))
  (sss_cons (ss_set 6 G (ee_ix G (ee_lstF (ea_cons ee_int (ea_cons ee_int (ea_cons ee_int (ea_cons ee_int (ea_cons ee_int (ea_cons ee_int (ea_cons ee_int (ea_cons ee_int ea_nil))))))))) (ee_mod (ee_intc Z.b_int (ea_cons (ee_add G.K (ee_var 5) (ee_var 4)) ea_nil)) ee_int)))
  (sss_cons (ss_set 7 G ee_int)
  (sss_cons (ss_if (et_eq G (ee_var 2) ee_int) (sss_one (ss_set 7 G (ee_add G.K ee_int (ee_mod (ee_intc Z.b_int (ea_cons (ee_var 5) ea_nil)) ee_int)))) (sss_one (ss_if (et_eq G (ee_var 2) ee_int) (sss_one (ss_set 6 G (ee_ix G (ee_lstF (ea_cons (ee_neg ee_int) (ea_cons ee_int (ea_cons ee_int (ea_cons (ee_neg ee_int) (ea_cons ee_int ea_nil)))))) (ee_mod (ee_intc Z.b_int (ea_cons (ee_add G.K (ee_var 5) (ee_var 4)) ea_nil)) ee_int)))) (sss_one (ss_if (et_eq G (ee_var 2) ee_int) (sss_one (ss_set 6 G (ee_add G.K (ee_mul (ee_var 6) (ee_pow ee_int ee_int)) (ee_var 5)))) (sss_one (ss_if (et_eq G (ee_var 2) ee_int) (sss_one (ss_set 6 G (ee_ix G (ee_lstF (ea_cons ee_int (ea_cons ee_int (ea_cons ee_int (ea_cons ee_int ea_nil))))) (ee_mod (ee_intc Z.b_int (ea_cons (ee_var 5) ea_nil)) ee_int)))) sss_nil)))))))
  (sss_one (ss_expr (ee_append (ee_var 3) (ee_call [] ((okx_law_low Z).mono (by decide)) hr Z.gx_law_low Z.kx_law_low Z.bdx_law_low (fun σ => L2N.passAt tk σ) (ea_cons (ee_var 6) (ea_cons (ee_var 7) ea_nil)))))))))))
  (sss_one (ss_ret (ee_var 3))))))
theorem okx_law_hand (Z : Fx P w K mg base B) : FnOk P w K mg base (L2N.CX P w) 1 (He.fAd K ("_law_hand", none)) Z.dx_law_hand.choose px_law_hand (spD B 1 Fx_law_hand) := by
  refine fn_ok sel0 Z.dx_law_hand.choose_spec Sx_law_hand fun cdv A outer s H E hr => ?_
  have G : Good (cxOf (L2N.CX P w) P w K mg base Nx_law_hand "_law_hand" (defScope sx_law_hand) (He.fAd K ("_law_hand", none)) cdv A outer s H E) B := good_of Z.hK Sx_law_hand.nd hr
  have tk : L2N.Takes (cxOf (L2N.CX P w) P w K mg base Nx_law_hand "_law_hand" (defScope sx_law_hand) (He.fAd K ("_law_hand", none)) cdv A outer s H E) (fun cls d _ H => E cls d H) := L2N.takes_of rfl rfl rfl rfl
  exact (sss_cons (ss_set 1 G (ee_lstC ea_nil))
  (sss_cons (ss_for G (L2.passes_of rfl) (ei_range1 Z.b_range (ee_len G Z.b_len (ea_cons (ee_var 0) ea_nil))) (eg_name 2 G) (sss_cons (ss_set 3 G (ee_ix G (ee_var 0) (ee_var 2)))
  (sss_one (ss_if ((ew_and (et_eq G (ee_ix G (ee_var 3) ee_int) ee_int) (ew_and1 (et_eq G (ee_mod (ee_intc Z.b_int (ea_cons (ee_var 2) ea_nil)) ee_int) ee_int)))).et (sss_one (ss_expr (ee_append (ee_var 1) (ee_ix G (ee_var 3) ee_int)))) (sss_one (ss_expr (ee_append (ee_var 1) (ee_lstF (ea_cons (ee_mul ee_int (ee_ix G (ee_var 3) ee_int)) (ea_cons (ee_mul ee_int (ee_ix G (ee_var 3) ee_int)) ea_nil))))))))))
  (sss_one (ss_ret (ee_var 1)))))
theorem okx_law_some_blocks (Z : Fx P w K mg base B) : FnOk P w K mg base (L2N.CX P w) 2 (He.fAd K ("_law_some_blocks", none)) Z.dx_law_some_blocks.choose px_law_some_blocks (spD B 2 Fx_law_some_blocks) := by
  refine fn_ok sel0 Z.dx_law_some_blocks.choose_spec Sx_law_some_blocks fun cdv A outer s H E hr => ?_
  have G : Good (cxOf (L2N.CX P w) P w K mg base Nx_law_some_blocks "_law_some_blocks" (defScope sx_law_some_blocks) (He.fAd K ("_law_some_blocks", none)) cdv A outer s H E) B := good_of Z.hK Sx_law_some_blocks.nd hr
  have tk : L2N.Takes (cxOf (L2N.CX P w) P w K mg base Nx_law_some_blocks "_law_some_blocks" (defScope sx_law_some_blocks) (He.fAd K ("_law_some_blocks", none)) cdv A outer s H E) (fun cls d _ H => E cls d H) := L2N.takes_of rfl rfl rfl rfl
  exact (sss_cons (ss_set 2 G (ee_lstF (ea_cons (ee_lstC (ea_cons ee_int ea_nil)) ea_nil)))
  (sss_cons (ss_for G (L2.passes_of rfl) (ei_range2 Z.b_range ee_int (ee_var 1)) (eg_name 3 G) (sss_cons (ss_set 4 G (ee_call [] ((okx_law_pick Z).mono (by decide)) hr Z.gx_law_pick Z.kx_law_pick Z.bdx_law_pick (fun σ => L2N.passAt tk σ) (ea_cons (ee_var 0) (ea_cons ee_int ea_nil))))
  (sss_one (ss_if (et_eq G (ee_var 4) ee_int) (sss_one (ss_set 2 G (ee_add G.K (ee_var 2) (ee_lstF (ea_cons (ee_lstC (ea_cons (ee_var 3) ea_nil)) ea_nil))))) (sss_cons (ss_set 5 G (ee_ix G (ee_var 2) (ee_mod (ee_intc Z.b_int (ea_cons (ee_var 4) ea_nil)) (ee_len G Z.b_len (ea_cons (ee_var 2) ea_nil)))))
  (sss_one (ss_expr (ee_append (ee_var 5) (ee_var 3)))))))))
  (sss_one (ss_ret (ee_var 2)))))
theorem okx_law_counted (Z : Fx P w K mg base B) : FnOk P w K mg base (L2N.CX P w) 2 (He.fAd K ("_law_counted", none)) Z.dx_law_counted.choose px_law_counted (spD B 3 Fx_law_counted) := by
  refine fn_ok sel0 Z.dx_law_counted.choose_spec Sx_law_counted fun cdv A outer s H E hr => ?_
  have G : Good (cxOf (L2N.CX P w) P w K mg base Nx_law_counted "_law_counted" (defScope sx_law_counted) (He.fAd K ("_law_counted", none)) cdv A outer s H E) B := good_of Z.hK Sx_law_counted.nd hr
  have tk : L2N.Takes (cxOf (L2N.CX P w) P w K mg base Nx_law_counted "_law_counted" (defScope sx_law_counted) (He.fAd K ("_law_counted", none)) cdv A outer s H E) (fun cls d _ H => E cls d H) := L2N.takes_of rfl rfl rfl rfl
  exact (sss_cons (ss_set 3 G (ee_ix G (ee_call [] ((okx_law_lots Z).mono (by decide)) hr Z.gx_law_lots Z.kx_law_lots Z.bdx_law_lots (fun σ => L2N.passAt tk σ) (ea_cons (ee_var 0) ea_nil)) (ee_var 2)))
  (sss_one (ss_ret (ee_tupc G Z.b_tuple (ea_cons (ee_lc [("block", 4)] G (ei_seq G (ee_var 1)) (fun _ _ _ _ _ => (eg_name 4 G.blk)) (fun _ _ _ _ _ => ets_nil) (fun _ _ _ _ _ => (ee_len G.blk Z.b_len (ea_cons (ee_lc [("place", 5)] G.blk (ei_seq G.blk (ee_var 4)) (fun _ _ _ _ _ => (eg_name 5 (G.blk).blk)) (fun _ _ _ _ _ => (ets_one (et_in (G.blk).blk (ee_var 5) (ee_var 3)))) (fun _ _ _ _ _ => (ee_var 5)) (show BlkOk Nx_law_counted (relS _ (defScope sx_law_counted)) _ _ from blkOk_by (by decide +kernel))) ea_nil))) (show BlkOk Nx_law_counted (defScope sx_law_counted) _ _ from blkOk_by (by decide +kernel))) ea_nil)))))
theorem okx_law_first_alike (Z : Fx P w K mg base B) : FnOk P w K mg base (L2N.CX P w) 3 (He.fAd K ("_law_first_alike", none)) Z.dx_law_first_alike.choose px_law_first_alike (spD B 3 Fx_law_first_alike) := by
  refine fn_ok sel0 Z.dx_law_first_alike.choose_spec Sx_law_first_alike fun cdv A outer s H E hr => ?_
  have G : Good (cxOf (L2N.CX P w) P w K mg base Nx_law_first_alike "_law_first_alike" (defScope sx_law_first_alike) (He.fAd K ("_law_first_alike", none)) cdv A outer s H E) B := good_of Z.hK Sx_law_first_alike.nd hr
  have tk : L2N.Takes (cxOf (L2N.CX P w) P w K mg base Nx_law_first_alike "_law_first_alike" (defScope sx_law_first_alike) (He.fAd K ("_law_first_alike", none)) cdv A outer s H E) (fun cls d _ H => E cls d H) := L2N.takes_of rfl rfl rfl rfl
  exact (sss_cons (ss_for G (L2.passes_of rfl) (ei_range1 Z.b_range (ee_add G.K (ee_var 2) ee_int)) (eg_name 3 G) (sss_one (ss_if (et_eq G (ee_call [] ((okx_law_counted Z).mono (by decide)) hr Z.gx_law_counted Z.kx_law_counted Z.bdx_law_counted (fun σ => L2N.passAt tk σ) (ea_cons (ee_var 0) (ea_cons (ee_var 1) (ea_cons (ee_var 3) ea_nil)))) (ee_call [] ((okx_law_counted Z).mono (by decide)) hr Z.gx_law_counted Z.kx_law_counted Z.bdx_law_counted (fun σ => L2N.passAt tk σ) (ea_cons (ee_var 0) (ea_cons (ee_var 1) (ea_cons (ee_var 2) ea_nil))))) (sss_one (ss_ret (ee_var 3))) sss_nil)))
  (sss_one (ss_ret (ee_var 2))))
theorem okx_law_refused_k81 (Z : Fx P w K mg base B) : FnOk P w K mg base (L2.CX P w) 7 (He.fAd K ("_law_refused", none)) Z.dx_law_refused_k81.choose px_law_refused_k81 (spD B 4 Fx_law_refused_k81) := by
  refine fn_ok sel0 Z.dx_law_refused_k81.choose_spec Sx_law_refused_k81 fun cdv A outer s H E hr => ?_
  have G : Good (cxOf (L2.CX P w) P w K mg base Nx_law_refused_k81 "_law_refused" (defScope sx_law_refused_k81) (He.fAd K ("_law_refused", none)) cdv A outer s H E) B := good_of Z.hK Sx_law_refused_k81.nd hr
  have tk : L2.Takes (cxOf (L2.CX P w) P w K mg base Nx_law_refused_k81 "_law_refused" (defScope sx_law_refused_k81) (He.fAd K ("_law_refused", none)) cdv A outer s H E) (fun cls d _ H => E cls d H) := L2.takes_of rfl rfl rfl rfl
  exact (sss_cons (ss_try (l := [⟨2, 4, "prize", true⟩, ⟨0, 5, "number", true⟩, ⟨1, 6, "fraction", true⟩, ⟨7, 7, "blocks", true⟩]) G tk rfl rfl (fun V pn xe tkV paV => (sss_one (ss_if (et_eq G.tr (ee_var 0) ee_int) (sss_one (ss_expr (ee_call [] ((okprize_of Z).mono (by decide)) hr Z.gprize_of Z.kprize_of Z.bdprize_of (fun σ => L2.passAt tkV σ) (ea_cons (ee_var 1) (ea_cons (ee_var 2) ea_nil))))) (sss_one (ss_if (et_eq G.tr (ee_var 0) ee_int) (sss_one (ss_expr (ee_call [] ((okby_number Z).mono (by decide)) hr Z.gby_number Z.kby_number Z.bdby_number (fun σ => L2.passAt tkV σ) (ea_cons (ee_var 1) ea_nil)))) (sss_one (ss_if (et_eq G.tr (ee_var 0) ee_int) (sss_one (ss_expr (ee_callK ((okprize_sum Z).mono (by decide)) hr Z.gprize_sum Z.kprize_sum Z.kbprize_sum_3_factor (fun σ => L2.passAt tkV σ) (ea_cons (ee_var 2) (ea_cons (ee_var 3) (ea_cons (ee_var 1) ea_nil))) (ek_cons (ee_tup (ea_cons ee_int (ea_cons ee_int ea_nil))) ek_nil)))) (sss_one (ss_if (et_eq G.tr (ee_var 0) ee_int) (sss_one (ss_expr (ee_call [] ((okrising_break Z).mono (by decide)) hr Z.grising_break Z.krising_break Z.bdrising_break (fun σ => L2.passAt tkV σ) (ea_cons (ee_var 1) (ea_cons (ee_var 2) ea_nil))))) (sss_one (ss_expr (ee_call [] ((okcounts_break Z).mono (by decide)) hr Z.gcounts_break Z.kcounts_break Z.bdcounts_break (fun σ => L2.passAt tkV σ) (ea_cons (ee_var 1) (ea_cons (ee_var 3) (ea_cons (ee_var 2) ea_nil))))))))))))))) (hds_cons ⟨2, 4, "prize", true⟩ rfl rfl ⟨rfl, by decide, .inl Z.e_BadPrize.g⟩ Z.e_BadPrize.xf Z.f_BadPrize Z.e_BadPrize.no (sc_and (sc_is Z.e_BadPrize.exc Z.b_isinstance Z.c_RatesError Z.q_BadPrize_RatesError rfl (.inl rfl)) (sc_not (sc_is Z.e_BadPrize.exc Z.b_isinstance Z.e_BadNumber.g Z.q_BadPrize_BadNumber rfl (.inl rfl)))) (hds_cons ⟨0, 5, "number", true⟩ rfl rfl ⟨rfl, by decide, .inl Z.e_BadNumber.g⟩ Z.e_BadNumber.xf Z.f_BadNumber Z.e_BadNumber.no (sc_and (sc_is Z.e_BadNumber.exc Z.b_isinstance Z.c_RatesError Z.q_BadNumber_RatesError rfl (.inl rfl)) (sc_not (sc_is Z.e_BadNumber.exc Z.b_isinstance Z.e_BadFraction.g Z.q_BadNumber_BadFraction rfl (.inl rfl)))) (hds_cons ⟨1, 6, "fraction", true⟩ rfl rfl ⟨rfl, by decide, .inl Z.e_BadFraction.g⟩ Z.e_BadFraction.xf Z.f_BadFraction Z.e_BadFraction.no (sc_and (sc_is Z.e_BadFraction.exc Z.b_isinstance Z.c_RatesError Z.q_BadFraction_RatesError rfl (.inl rfl)) (sc_not (sc_is Z.e_BadFraction.exc Z.b_isinstance Z.e_BadPrize.g Z.q_BadFraction_BadPrize rfl (.inl rfl)))) (hds_cons ⟨7, 7, "blocks", true⟩ rfl rfl ⟨rfl, by decide, .inl Z.e_BadBlocks.g⟩ Z.e_BadBlocks.xf Z.f_BadBlocks Z.e_BadBlocks.no (sc_is Z.e_BadBlocks.exc Z.b_isinstance Z.c_RatesError Z.q_BadBlocks_RatesError rfl (.inl rfl)) hds_nil)))) (List.forall_mem_cons.mpr ⟨Z.x_BadPrize, (List.forall_mem_cons.mpr ⟨Z.x_BadNumber, (List.forall_mem_cons.mpr ⟨Z.x_BadFraction, (List.forall_mem_cons.mpr ⟨Z.x_BadBlocks, (fun _ hq => absurd hq List.not_mem_nil)⟩)⟩)⟩)⟩))
  (sss_one (ss_ret (ee_tup (ea_cons ee_str (ea_cons ee_int (ea_cons ee_bl ea_nil)))))))
theorem okx_law_falls (Z : Fx P w K mg base B) : FnOk P w K mg base (L2N.CX P w) 2 (He.fAd K ("_law_falls", none)) Z.dx_law_falls.choose px_law_falls (spD B 2 Fx_law_falls) := by
  refine fn_ok sel0 Z.dx_law_falls.choose_spec Sx_law_falls fun cdv A outer s H E hr => ?_
  have G : Good (cxOf (L2N.CX P w) P w K mg base Nx_law_falls "_law_falls" (defScope sx_law_falls) (He.fAd K ("_law_falls", none)) cdv A outer s H E) B := good_of Z.hK Sx_law_falls.nd hr
  have tk : L2N.Takes (cxOf (L2N.CX P w) P w K mg base Nx_law_falls "_law_falls" (defScope sx_law_falls) (He.fAd K ("_law_falls", none)) cdv A outer s H E) (fun cls d _ H => E cls d H) := L2N.takes_of rfl rfl rfl rfl
  exact (sss_cons (ss_for G (L2.passes_of rfl) (ei_range1 Z.b_range (ee_len G Z.b_len (ea_cons (ee_var 1) ea_nil))) (eg_name 2 G) (sss_one (ss_for G (L2.passes_of rfl) (ei_range1 Z.b_range (ee_var 0)) (eg_name 3 G) (sss_one (ss_if (et_notin G (ee_var 3) (ee_ix G (ee_call [] ((okx_law_lots Z).mono (by decide)) hr Z.gx_law_lots Z.kx_law_lots Z.bdx_law_lots (fun σ => L2N.passAt tk σ) (ea_cons (ee_var 0) ea_nil)) (ee_var 2))) (sss_one (ss_if (et_val G (ee_call [] ((okx_law_under Z).mono (by decide)) hr Z.gx_law_under Z.kx_law_under Z.bdx_law_under (fun σ => L2N.passAt tk σ) (ea_cons (ee_ix G (ee_var 1) (ee_add G.K (ee_var 2) (ee_call [] ((okx_law_number Z).mono (by decide)) hr Z.gx_law_number Z.kx_law_number Z.bdx_law_number (fun σ => L2N.passAt tk σ) (ea_cons (ee_lstF (ea_cons (ee_var 3) ea_nil)) ea_nil)))) (ea_cons (ee_ix G (ee_var 1) (ee_var 2)) ea_nil)))) (sss_one (ss_ret (ee_tup (ea_cons (ee_tupc G Z.b_tuple (ea_cons (ee_ix G (ee_call [] ((okx_law_lots Z).mono (by decide)) hr Z.gx_law_lots Z.kx_law_lots Z.bdx_law_lots (fun σ => L2N.passAt tk σ) (ea_cons (ee_var 0) ea_nil)) (ee_var 2)) ea_nil)) (ea_cons (ee_var 3) ea_nil))))) sss_nil)) sss_nil)))))
  (sss_one (ss_ret ee_non)))
theorem okx_law_uneven (Z : Fx P w K mg base B) : FnOk P w K mg base (L2N.CX P w) 4 (He.fAd K ("_law_uneven", none)) Z.dx_law_uneven.choose px_law_uneven (spD B 3 Fx_law_uneven) := by
  refine fn_ok sel0 Z.dx_law_uneven.choose_spec Sx_law_uneven fun cdv A outer s H E hr => ?_
  have G : Good (cxOf (L2N.CX P w) P w K mg base Nx_law_uneven "_law_uneven" (defScope sx_law_uneven) (He.fAd K ("_law_uneven", none)) cdv A outer s H E) B := good_of Z.hK Sx_law_uneven.nd hr
  have tk : L2N.Takes (cxOf (L2N.CX P w) P w K mg base Nx_law_uneven "_law_uneven" (defScope sx_law_uneven) (He.fAd K ("_law_uneven", none)) cdv A outer s H E) (fun cls d _ H => E cls d H) := L2N.takes_of rfl rfl rfl rfl
  exact (sss_cons (ss_for G (L2.passes_of rfl) (ei_range1 Z.b_range (ee_len G Z.b_len (ea_cons (ee_var 2) ea_nil))) (eg_name 3 G) (sss_cons (ss_set 4 G (ee_call [] ((okx_law_first_alike Z).mono (by decide)) hr Z.gx_law_first_alike Z.kx_law_first_alike Z.bdx_law_first_alike (fun σ => L2N.passAt tk σ) (ea_cons (ee_var 0) (ea_cons (ee_var 1) (ea_cons (ee_var 3) ea_nil)))))
  (sss_one (ss_if (et_ne G (ee_ix G (ee_var 2) (ee_var 4)) (ee_ix G (ee_var 2) (ee_var 3))) (sss_one (ss_ret (ee_tup (ea_cons (ee_tupc G Z.b_tuple (ea_cons (ee_ix G (ee_call [] ((okx_law_lots Z).mono (by decide)) hr Z.gx_law_lots Z.kx_law_lots Z.bdx_law_lots (fun σ => L2N.passAt tk σ) (ea_cons (ee_var 0) ea_nil)) (ee_var 4)) ea_nil)) (ea_cons (ee_tupc G Z.b_tuple (ea_cons (ee_ix G (ee_call [] ((okx_law_lots Z).mono (by decide)) hr Z.gx_law_lots Z.kx_law_lots Z.bdx_law_lots (fun σ => L2N.passAt tk σ) (ea_cons (ee_var 0) ea_nil)) (ee_var 3)) ea_nil)) ea_nil))))) sss_nil))))
  (sss_one (ss_ret ee_non)))
theorem okx_law_doors_k81 (Z : Fx P w K mg base B) : FnOk P w K mg base (L2.CX P w) 8 (He.fAd K ("_law_doors", none)) Z.dx_law_doors_k81.choose px_law_doors_k81 (spD B 3 Fx_law_doors_k81) := by
  refine fn_ok sel0 Z.dx_law_doors_k81.choose_spec Sx_law_doors_k81 fun cdv A outer s H E hr => ?_
  have G : Good (cxOf (L2.CX P w) P w K mg base Nx_law_doors_k81 "_law_doors" (defScope sx_law_doors_k81) (He.fAd K ("_law_doors", none)) cdv A outer s H E) B := good_of Z.hK Sx_law_doors_k81.nd hr
  have tk : L2.Takes (cxOf (L2.CX P w) P w K mg base Nx_law_doors_k81 "_law_doors" (defScope sx_law_doors_k81) (He.fAd K ("_law_doors", none)) cdv A outer s H E) (fun cls d _ H => E cls d H) := L2.takes_of rfl rfl rfl rfl
  exact (sss_cons (ss_set 3 G (ee_call [] ((okx_law_pick Z).mono (by decide)) hr Z.gx_law_pick Z.kx_law_pick Z.bdx_law_pick (fun σ => passNX tk σ) (ea_cons (ee_var 0) (ea_cons (ee_len G Z.b_len (ea_cons (ee_var 2) ea_nil)) ea_nil))))
  (sss_cons (ss_set 4 G (ee_lstcC G Z.b_list (ea_cons (ee_var 2) ea_nil)))
  (sss_cons (ss_sto (ee_var 4) (ee_var 3) (ee_ix G (ee_lstF (ea_cons (ee_tup (ea_cons ee_int (ea_cons ee_int ea_nil))) (ea_cons ee_bl (ea_cons ee_str (ea_cons (ee_tup (ea_cons ee_int (ea_cons ee_int (ea_cons ee_int ea_nil)))) (ea_cons ee_non ea_nil)))))) (ee_call [] ((okx_law_pick Z).mono (by decide)) hr Z.gx_law_pick Z.kx_law_pick Z.bdx_law_pick (fun σ => passNX tk σ) (ea_cons (ee_var 0) (ea_cons ee_int ea_nil)))))
  (sss_cons (ss_set 5 G (ee_ix G (ee_lstF (ea_cons ee_int (ea_cons ee_int ea_nil))) (ee_call [] ((okx_law_pick Z).mono (by decide)) hr Z.gx_law_pick Z.kx_law_pick Z.bdx_law_pick (fun σ => passNX tk σ) (ea_cons (ee_var 0) (ea_cons ee_int ea_nil)))))
  (sss_cons (ss_if (et_ne G (ee_call [] ((okx_law_refused_k81 Z).mono (by decide)) hr Z.gx_law_refused_k81 Z.kx_law_refused_k81 Z.bdx_law_refused_k81 (fun σ => L2.passAt tk σ) (ea_cons (ee_var 5) (ea_cons (ee_var 4) (ea_cons (ee_var 1) (ea_cons (ee_var 2) ea_nil))))) (ee_tup (ea_cons ee_str (ea_cons (ee_var 3) (ea_cons ee_bl ea_nil))))) (sss_one (ss_ret ee_bl)) sss_nil)
  (sss_cons (ss_if (et_ne G (ee_call [] ((okx_law_refused_k81 Z).mono (by decide)) hr Z.gx_law_refused_k81 Z.kx_law_refused_k81 Z.bdx_law_refused_k81 (fun σ => L2.passAt tk σ) (ea_cons (ee_var 5) (ea_cons (ee_var 4) (ea_cons (ee_ix G (ee_lstF (ea_cons ee_int (ea_cons ee_int (ea_cons ee_bl (ea_cons ee_non ea_nil))))) (ee_call [] ((okx_law_pick Z).mono (by decide)) hr Z.gx_law_pick Z.kx_law_pick Z.bdx_law_pick (fun σ => passNX tk σ) (ea_cons (ee_var 0) (ea_cons ee_int ea_nil)))) (ea_cons (ee_var 2) ea_nil))))) (ee_tup (ea_cons ee_str (ea_cons ee_str (ea_cons ee_bl ea_nil))))) (sss_one (ss_ret ee_bl)) sss_nil)
  (sss_cons (ss_if (et_ne G (ee_call [] ((okx_law_refused_k81 Z).mono (by decide)) hr Z.gx_law_refused_k81 Z.kx_law_refused_k81 Z.bdx_law_refused_k81 (fun σ => L2.passAt tk σ) (ea_cons (ee_var 5) (ea_cons (ee_slice G (fun _ _ _ _ _ _ _ _ _ => mkF_run) (ee_var 4) (eo_some ee_int) eo_none) (ea_cons (ee_var 1) (ea_cons (ee_var 2) ea_nil))))) (ee_tup (ea_cons ee_str (ea_cons (ee_neg ee_int) (ea_cons ee_bl ea_nil))))) (sss_one (ss_ret ee_bl)) sss_nil)
  (sss_cons (ss_if (et_ne G (ee_call [] ((okx_law_refused_k81 Z).mono (by decide)) hr Z.gx_law_refused_k81 Z.kx_law_refused_k81 Z.bdx_law_refused_k81 (fun σ => L2.passAt tk σ) (ea_cons ee_int (ea_cons (ee_slice G (fun _ _ _ _ _ _ _ _ _ => mkF_run) (ee_var 2) eo_none (eo_some ee_int)) (ea_cons (ee_var 1) (ea_cons (ee_var 2) ea_nil))))) (ee_tup (ea_cons ee_str (ea_cons (ee_neg ee_int) (ea_cons ee_bl ea_nil))))) (sss_one (ss_ret ee_bl)) sss_nil)
  (sss_cons (ss_if (et_ne G (ee_call [] ((okx_law_refused_k81 Z).mono (by decide)) hr Z.gx_law_refused_k81 Z.kx_law_refused_k81 Z.bdx_law_refused_k81 (fun σ => L2.passAt tk σ) (ea_cons ee_int (ea_cons (ee_lstF (ea_cons ee_int (ea_cons ee_int (ea_cons ee_non ea_nil)))) (ea_cons (ee_var 1) (ea_cons (ee_var 2) ea_nil))))) (ee_tup (ea_cons ee_str (ea_cons ee_int (ea_cons ee_bl ea_nil))))) (sss_one (ss_ret ee_bl)) sss_nil)
  (sss_cons (ss_if (et_ne G (ee_call [] ((okx_law_refused_k81 Z).mono (by decide)) hr Z.gx_law_refused_k81 Z.kx_law_refused_k81 Z.bdx_law_refused_k81 (fun σ => L2.passAt tk σ) (ea_cons ee_int (ea_cons (ee_var 4) (ea_cons (ee_var 1) (ea_cons (ee_slice G (fun _ _ _ _ _ _ _ _ _ => mkF_run) (ee_var 2) (eo_some ee_int) eo_none) ea_nil))))) (ee_tup (ea_cons ee_str (ea_cons (ee_neg ee_int) (ea_cons ee_bl ea_nil))))) (sss_one (ss_ret ee_bl)) sss_nil)
  (sss_cons (ss_if (et_ne G (ee_call [] ((okx_law_refused_k81 Z).mono (by decide)) hr Z.gx_law_refused_k81 Z.kx_law_refused_k81 Z.bdx_law_refused_k81 (fun σ => L2.passAt tk σ) (ea_cons ee_int (ea_cons (ee_var 2) (ea_cons (ee_var 1) (ea_cons (ee_var 2) ea_nil))))) (ee_tup (ea_cons ee_str (ea_cons ee_str (ea_cons ee_bl ea_nil))))) (sss_one (ss_ret ee_bl)) sss_nil)
  (sss_cons (ss_if (et_ne G (ee_call [] ((okx_law_refused_k81 Z).mono (by decide)) hr Z.gx_law_refused_k81 Z.kx_law_refused_k81 Z.bdx_law_refused_k81 (fun σ => L2.passAt tk σ) (ea_cons ee_int (ea_cons (ee_var 4) (ea_cons (ee_var 1) (ea_cons (ee_lstF (ea_cons (ee_lstF (ea_cons ee_int ea_nil)) ea_nil)) ea_nil))))) (ee_tup (ea_cons ee_str (ea_cons (ee_var 3) (ea_cons ee_bl ea_nil))))) (sss_one (ss_ret ee_bl)) sss_nil)
  (sss_one (ss_ret (ee_eq G (ee_call [] ((okx_law_refused_k81 Z).mono (by decide)) hr Z.gx_law_refused_k81 Z.kx_law_refused_k81 Z.bdx_law_refused_k81 (fun σ => L2.passAt tk σ) (ea_cons ee_int (ea_cons (ee_var 2) (ea_cons (ee_var 1) (ea_cons (ee_lstF (ea_cons (ee_lstF (ea_cons ee_int ea_nil)) ea_nil)) ea_nil))))) (ee_tup (ea_cons ee_str (ea_cons ee_int (ea_cons ee_bl ea_nil)))))))))))))))))))
theorem oklaw_k81 (Z : Fx P w K mg base B) : FnOk P w K mg base (L2.CX P w) 9 (He.fAd K ("law", none)) Z.dlaw_k81.choose plaw_k81 (spD B 1 Flaw_k81) := by
  refine fn_ok sel0 Z.dlaw_k81.choose_spec Slaw_k81 fun cdv A outer s H E hr => ?_
  have G : Good (cxOf (L2.CX P w) P w K mg base Nlaw_k81 "law" (defScope slaw_k81) (He.fAd K ("law", none)) cdv A outer s H E) B := good_of Z.hK Slaw_k81.nd hr
  have tk : L2.Takes (cxOf (L2.CX P w) P w K mg base Nlaw_k81 "law" (defScope slaw_k81) (He.fAd K ("law", none)) cdv A outer s H E) (fun cls d _ H => E cls d H) := L2.takes_of rfl rfl rfl rfl
  exact (sss_cons (ss_set 1 G (ee_call [] ((okx_law_pool Z).mono (by decide)) hr Z.gx_law_pool Z.kx_law_pool Z.bdx_law_pool (fun σ => passNX tk σ) (ea_cons (ee_var 0) ea_nil)))
  (sss_cons (ss_set 2 G (ee_call [] ((okx_law_size Z).mono (by decide)) hr Z.gx_law_size Z.kx_law_size Z.bdx_law_size (fun σ => passNX tk σ) (ea_cons (ee_var 1) (ea_cons ee_int ea_nil))))
  (sss_cons (ss_set 3 G (ee_call [] ((okx_law_prize Z).mono (by decide)) hr Z.gx_law_prize Z.kx_law_prize Z.bdx_law_prize (fun σ => passNX tk σ) (ea_cons (ee_var 1) (ea_cons (ee_var 2) ea_nil))))
  (sss_cons (ss_set 4 G (ee_call [] ((okx_law_lots Z).mono (by decide)) hr Z.gx_law_lots Z.kx_law_lots Z.bdx_law_lots (fun σ => passNX tk σ) (ea_cons (ee_var 2) ea_nil)))
  (sss_cons (ss_set 5 G (ee_call [] ((okx_law_some_blocks Z).mono (by decide)) hr Z.gx_law_some_blocks Z.kx_law_some_blocks Z.bdx_law_some_blocks (fun σ => passNX tk σ) (ea_cons (ee_var 1) (ea_cons (ee_var 2) ea_nil))))
  (sss_cons (ss_set 6 G (ee_call [] ((okx_law_pick Z).mono (by decide)) hr Z.gx_law_pick Z.kx_law_pick Z.bdx_law_pick (fun σ => passNX tk σ) (ea_cons (ee_var 1) (ea_cons ee_int ea_nil))))
  (sss_cons (ss_if (et_eq G (ee_var 6) ee_int) (sss_one (ss_set 3 G (ee_lcC [("number", 12)] G (ei_range1 Z.b_range (ee_len G Z.b_len (ea_cons (ee_var 4) ea_nil))) (fun _ _ _ _ _ => (eg_name 12 G.blk)) (fun _ _ _ _ _ => ets_nil) (fun _ _ _ _ _ => (ee_ix G.blk (ee_var 3) (ee_call [] ((okx_law_first_alike Z).mono (by decide)) hr Z.gx_law_first_alike Z.kx_law_first_alike Z.bdx_law_first_alike (fun σ => passBN σ) (ea_cons (ee_var 2) (ea_cons (ee_var 5) (ea_cons (ee_var 12) ea_nil)))))) (show BlkOk Nlaw_k81 (defScope slaw_k81) _ _ from blkOk_by (by decide +kernel))))) sss_nil)
  (sss_cons (ss_if (et_eq G (ee_var 6) ee_int) (sss_one (ss_set 3 G (ee_lcC [("lot", 16)] G (ei_seq G (ee_var 4)) (fun _ _ _ _ _ => (eg_name 16 G.blk)) (fun _ _ _ _ _ => ets_nil) (fun _ _ _ _ _ => (ee_call [] ((okx_law_sum Z).mono (by decide)) hr Z.gx_law_sum Z.kx_law_sum Z.bdx_law_sum (fun σ => passBN σ) (ea_cons (ee_ix G.blk (ee_var 3) ee_int) (ea_cons (ee_tup (ea_cons (ee_mul ee_int (ee_len G.blk Z.b_len (ea_cons (ee_var 16) ea_nil))) (ea_cons ee_int ea_nil))) ea_nil)))) (show BlkOk Nlaw_k81 (defScope slaw_k81) _ _ from blkOk_by (by decide +kernel))))) sss_nil)
  (sss_cons (ss_set 7 G (ee_call [] ((okx_law_pick Z).mono (by decide)) hr Z.gx_law_pick Z.kx_law_pick Z.bdx_law_pick (fun σ => passNX tk σ) (ea_cons (ee_var 1) (ea_cons (ee_len G Z.b_len (ea_cons (ee_var 4) ea_nil)) ea_nil))))
  (sss_cons (ss_if (et_eq G (ee_call [] ((okx_law_pick Z).mono (by decide)) hr Z.gx_law_pick Z.kx_law_pick Z.bdx_law_pick (fun σ => passNX tk σ) (ea_cons (ee_var 1) (ea_cons ee_int ea_nil))) ee_int) (sss_one (ss_sto (ee_var 3) (ee_var 7) (ee_call [] ((okx_law_sum Z).mono (by decide)) hr Z.gx_law_sum Z.kx_law_sum Z.bdx_law_sum (fun σ => passNX tk σ) (ea_cons (ee_ix G (ee_var 3) (ee_var 7)) (ea_cons (ee_tup (ea_cons (ee_neg ee_int) (ea_cons ee_int ea_nil))) ea_nil))))) sss_nil)
  (sss_cons (ss_set 8 G (ee_call [] ((okx_law_hand Z).mono (by decide)) hr Z.gx_law_hand Z.kx_law_hand Z.bdx_law_hand (fun σ => passNX tk σ) (ea_cons (ee_var 3) ea_nil)))
  (sss_cons (ss_set 9 G (ee_call [] ((okprize_of Z).mono (by decide)) hr Z.gprize_of Z.kprize_of Z.bdprize_of (fun σ => L2.passAt tk σ) (ea_cons (ee_var 8) (ea_cons (ee_var 2) ea_nil))))
  (sss_cons (ss_if ((ew_or (et_not (et_val G (ee_call [] ((okx_law_row_right Z).mono (by decide)) hr Z.gx_law_row_right Z.kx_law_row_right Z.bdx_law_row_right (fun σ => passNX tk σ) (ea_cons (ee_var 9) (ea_cons (ee_len G Z.b_len (ea_cons (ee_var 4) ea_nil)) ea_nil))))) (ew_or (et_ne G (ee_var 9) (ee_tupc G Z.b_tuple (ea_cons (ee_var 3) ea_nil))) (ew_or1 (et_ne G (ee_var 8) (ee_call [] ((okx_law_hand Z).mono (by decide)) hr Z.gx_law_hand Z.kx_law_hand Z.bdx_law_hand (fun σ => passNX tk σ) (ea_cons (ee_var 3) ea_nil))))))).et (sss_one (ss_ret ee_bl)) sss_nil)
  (sss_cons (ss_if (et_ne G (ee_call [] ((okrising_break Z).mono (by decide)) hr Z.grising_break Z.krising_break Z.bdrising_break (fun σ => L2.passAt tk σ) (ea_cons (ee_call [] ((okx_law_hand Z).mono (by decide)) hr Z.gx_law_hand Z.kx_law_hand Z.bdx_law_hand (fun σ => passNX tk σ) (ea_cons (ee_var 3) ea_nil)) (ea_cons (ee_var 2) ea_nil))) (ee_call [] ((okx_law_falls Z).mono (by decide)) hr Z.gx_law_falls Z.kx_law_falls Z.bdx_law_falls (fun σ => passNX tk σ) (ea_cons (ee_var 2) (ea_cons (ee_var 3) ea_nil)))) (sss_one (ss_ret ee_bl)) sss_nil)
  (sss_cons (ss_if (et_ne G (ee_call [] ((okcounts_break Z).mono (by decide)) hr Z.gcounts_break Z.kcounts_break Z.bdcounts_break (fun σ => L2.passAt tk σ) (ea_cons (ee_call [] ((okx_law_hand Z).mono (by decide)) hr Z.gx_law_hand Z.kx_law_hand Z.bdx_law_hand (fun σ => passNX tk σ) (ea_cons (ee_var 3) ea_nil)) (ea_cons (ee_var 5) (ea_cons (ee_var 2) ea_nil)))) (ee_call [] ((okx_law_uneven Z).mono (by decide)) hr Z.gx_law_uneven Z.kx_law_uneven Z.bdx_law_uneven (fun σ => passNX tk σ) (ea_cons (ee_var 2) (ea_cons (ee_var 5) (ea_cons (ee_var 3) ea_nil))))) (sss_one (ss_ret ee_bl)) sss_nil)
  (sss_cons (ss_set 10 G (ee_add G.K (ee_lstF (ea_cons (ee_ix G (ee_var 3) ee_int) ea_nil)) (ee_slice G (fun _ _ _ _ _ _ _ _ _ => mkF_run) (ee_var 3) (eo_some ee_int) (eo_some (ee_add G.K (ee_var 2) ee_int)))))
  (sss_cons (ss_set 11 G (ee_call [] ((okby_number Z).mono (by decide)) hr Z.gby_number Z.kby_number Z.bdby_number (fun σ => L2.passAt tk σ) (ea_cons (ee_call [] ((okx_law_hand Z).mono (by decide)) hr Z.gx_law_hand Z.kx_law_hand Z.bdx_law_hand (fun σ => passNX tk σ) (ea_cons (ee_var 10) ea_nil)) ea_nil)))
  (sss_cons (ss_if (et_not (et_val G (ee_call [] ((okx_law_row_right Z).mono (by decide)) hr Z.gx_law_row_right Z.kx_law_row_right Z.bdx_law_row_right (fun σ => passNX tk σ) (ea_cons (ee_var 11) (ea_cons (ee_len G Z.b_len (ea_cons (ee_var 4) ea_nil)) ea_nil))))) (sss_one (ss_ret ee_bl)) sss_nil)
  (sss_cons (ss_for G (L2.passes_of rfl) (ei_range1 Z.b_range (ee_len G Z.b_len (ea_cons (ee_var 4) ea_nil))) (eg_name 12 G) (sss_one (ss_if (et_ne G (ee_ix G (ee_var 11) (ee_var 12)) (ee_ix G (ee_var 10) (ee_len G Z.b_len (ea_cons (ee_ix G (ee_var 4) (ee_var 12)) ea_nil)))) (sss_one (ss_ret ee_bl)) sss_nil)))
  (sss_cons (ss_set 13 G (ee_call [] ((okx_law_low Z).mono (by decide)) hr Z.gx_law_low Z.kx_law_low Z.bdx_law_low (fun σ => passNX tk σ) (ea_cons (ee_ix G (ee_lstF (ea_cons ee_int (ea_cons (ee_neg ee_int) (ea_cons ee_int (ea_cons ee_int ea_nil))))) (ee_call [] ((okx_law_pick Z).mono (by decide)) hr Z.gx_law_pick Z.kx_law_pick Z.bdx_law_pick (fun σ => passNX tk σ) (ea_cons (ee_var 1) (ea_cons ee_int ea_nil)))) (ea_cons (ee_add G.K ee_int (ee_call [] ((okx_law_pick Z).mono (by decide)) hr Z.gx_law_pick Z.kx_law_pick Z.bdx_law_pick (fun σ => passNX tk σ) (ea_cons (ee_var 1) (ea_cons ee_int ea_nil)))) ea_nil))))
  (sss_cons (ss_set 14 G (ee_callK ((okprize_sum Z).mono (by decide)) hr Z.gprize_sum Z.kprize_sum Z.kbprize_sum_3_factor (fun σ => L2.passAt tk σ) (ea_cons (ee_var 2) (ea_cons (ee_call [] ((okx_law_hand Z).mono (by decide)) hr Z.gx_law_hand Z.kx_law_hand Z.bdx_law_hand (fun σ => passNX tk σ) (ea_cons (ee_var 3) ea_nil)) (ea_cons (ee_var 11) ea_nil))) (ek_cons (ee_var 13) ek_nil)))
  (sss_cons (ss_set 15 G (ee_call [.int 1] ((okprize_sum Z).mono (by decide)) hr Z.gprize_sum Z.kprize_sum Z.bdprize_sum_3 (fun σ => L2.passAt tk σ) (ea_cons (ee_var 2) (ea_cons (ee_call [] ((okx_law_hand Z).mono (by decide)) hr Z.gx_law_hand Z.kx_law_hand Z.bdx_law_hand (fun σ => passNX tk σ) (ea_cons (ee_var 3) ea_nil)) (ea_cons (ee_var 11) ea_nil)))))
  (sss_cons (ss_if ((ew_or (et_not (et_val G (ee_call [] ((okx_law_row_right Z).mono (by decide)) hr Z.gx_law_row_right Z.kx_law_row_right Z.bdx_law_row_right (fun σ => passNX tk σ) (ea_cons (ee_var 14) (ea_cons (ee_len G Z.b_len (ea_cons (ee_var 4) ea_nil)) ea_nil))))) (ew_or1 (et_not (et_val G (ee_call [] ((okx_law_row_right Z).mono (by decide)) hr Z.gx_law_row_right Z.kx_law_row_right Z.bdx_law_row_right (fun σ => passNX tk σ) (ea_cons (ee_var 15) (ea_cons (ee_len G Z.b_len (ea_cons (ee_var 4) ea_nil)) ea_nil)))))))).et (sss_one (ss_ret ee_bl)) sss_nil)
  (sss_cons (ss_for G (L2.passes_of rfl) (ei_range1 Z.b_range (ee_len G Z.b_len (ea_cons (ee_var 4) ea_nil))) (eg_name 12 G) (sss_cons (ss_if (et_ne G (ee_ix G (ee_var 14) (ee_var 12)) (ee_call [] ((okx_law_sum Z).mono (by decide)) hr Z.gx_law_sum Z.kx_law_sum Z.bdx_law_sum (fun σ => passNX tk σ) (ea_cons (ee_call [] ((okx_law_mul Z).mono (by decide)) hr Z.gx_law_mul Z.kx_law_mul Z.bdx_law_mul (fun σ => passNX tk σ) (ea_cons (ee_var 13) (ea_cons (ee_ix G (ee_var 3) (ee_var 12)) ea_nil))) (ea_cons (ee_ix G (ee_var 11) (ee_var 12)) ea_nil)))) (sss_one (ss_ret ee_bl)) sss_nil)
  (sss_one (ss_if (et_ne G (ee_ix G (ee_var 15) (ee_var 12)) (ee_call [] ((okx_law_sum Z).mono (by decide)) hr Z.gx_law_sum Z.kx_law_sum Z.bdx_law_sum (fun σ => passNX tk σ) (ea_cons (ee_ix G (ee_var 3) (ee_var 12)) (ea_cons (ee_ix G (ee_var 11) (ee_var 12)) ea_nil)))) (sss_one (ss_ret ee_bl)) sss_nil))))
  (sss_one (ss_ret (ee_call [] ((okx_law_doors_k81 Z).mono (by decide)) hr Z.gx_law_doors_k81 Z.kx_law_doors_k81 Z.bdx_law_doors_k81 (fun σ => L2.passAt tk σ) (ea_cons (ee_var 1) (ea_cons (ee_var 2) (ea_cons (ee_call [] ((okx_law_hand Z).mono (by decide)) hr Z.gx_law_hand Z.kx_law_hand Z.bdx_law_hand (fun σ => passNX tk σ) (ea_cons (ee_var 3) ea_nil)) ea_nil))))))))))))))))))))))))))))))
end
end K81
namespace K81
open PySem PySem.Spec PyProof.Rows L2 Cb Sh
def Dis_whole : He.DefD := ⟨("is_whole", none), "is_whole", "is_whole", defArgs sis_whole, defBody sis_whole, defScope sis_whole, [], []⟩
def Dx_ratios_lowest : He.DefD := ⟨("_ratios_lowest", none), "_ratios_lowest", "_ratios_lowest", defArgs sx_ratios_lowest, defBody sx_ratios_lowest, defScope sx_ratios_lowest, [], []⟩
def Dfraction_of : He.DefD := ⟨("fraction_of", none), "fraction_of", "fraction_of", defArgs sfraction_of, defBody sfraction_of, defScope sfraction_of, [], []⟩
def Dadded : He.DefD := ⟨("added", none), "added", "added", defArgs sadded, defBody sadded, defScope sadded, [], []⟩
def Dtimes : He.DefD := ⟨("times", none), "times", "times", defArgs stimes, defBody stimes, defScope stimes, [], []⟩
def Dcompare : He.DefD := ⟨("compare", none), "compare", "compare", defArgs scompare, defBody scompare, defScope scompare, [], []⟩
def Dx_lots_size : He.DefD := ⟨("_lots_size", none), "_lots_size", "_lots_size", defArgs sx_lots_size, defBody sx_lots_size, defScope sx_lots_size, [], []⟩
def Dlot_from : He.DefD := ⟨("lot_from", none), "lot_from", "lot_from", defArgs slot_from, defBody slot_from, defScope slot_from, [], []⟩
def Dall_lots : He.DefD := ⟨("all_lots", none), "all_lots", "all_lots", defArgs sall_lots, defBody sall_lots, defScope sall_lots, [], []⟩
def Dcheck_blocks : He.DefD := ⟨("check_blocks", none), "check_blocks", "check_blocks", defArgs scheck_blocks, defBody scheck_blocks, defScope scheck_blocks, [], []⟩
def Dx_prizes_entries : He.DefD := ⟨("_prizes_entries", none), "_prizes_entries", "_prizes_entries", defArgs sx_prizes_entries, defBody sx_prizes_entries, defScope sx_prizes_entries, [], []⟩
def Dstop_size : He.DefD := ⟨("stop_size", none), "stop_size", "stop_size", defArgs sstop_size, defBody sstop_size, defScope sstop_size, [], []⟩
def Dprize_of : He.DefD := ⟨("prize_of", none), "prize_of", "prize_of", defArgs sprize_of, defBody sprize_of, defScope sprize_of, [], []⟩
def Damounts_of : He.DefD := ⟨("amounts_of", none), "amounts_of", "amounts_of", defArgs samounts_of, defBody samounts_of, defScope samounts_of, [], []⟩
def Dby_number : He.DefD := ⟨("by_number", none), "by_number", "by_number", defArgs sby_number, defBody sby_number, defScope sby_number, [], []⟩
def Dprize_sum : He.DefD := ⟨("prize_sum", none), "prize_sum", "prize_sum", defArgs sprize_sum, defBody sprize_sum, defScope sprize_sum, [], [("factor", .int 1)]⟩
def Drising_break : He.DefD := ⟨("rising_break", none), "rising_break", "rising_break", defArgs srising_break, defBody srising_break, defScope srising_break, [], []⟩
def Dcounts_of : He.DefD := ⟨("counts_of", none), "counts_of", "counts_of", defArgs scounts_of, defBody scounts_of, defScope scounts_of, [], []⟩
def Dcounts_break : He.DefD := ⟨("counts_break", none), "counts_break", "counts_break", defArgs scounts_break, defBody scounts_break, defScope scounts_break, [], []⟩
def Dx_law_pool : He.DefD := ⟨("_law_pool", none), "_law_pool", "_law_pool", defArgs sx_law_pool, defBody sx_law_pool, defScope sx_law_pool, [], []⟩
def Dx_law_pick : He.DefD := ⟨("_law_pick", none), "_law_pick", "_law_pick", defArgs sx_law_pick, defBody sx_law_pick, defScope sx_law_pick, [], []⟩
def Dx_law_size : He.DefD := ⟨("_law_size", none), "_law_size", "_law_size", defArgs sx_law_size, defBody sx_law_size, defScope sx_law_size, [], []⟩
def Dx_law_lots : He.DefD := ⟨("_law_lots", none), "_law_lots", "_law_lots", defArgs sx_law_lots, defBody sx_law_lots, defScope sx_law_lots, [], []⟩
def Dx_law_number : He.DefD := ⟨("_law_number", none), "_law_number", "_law_number", defArgs sx_law_number, defBody sx_law_number, defScope sx_law_number, [], []⟩
def Dx_law_gcd : He.DefD := ⟨("_law_gcd", none), "_law_gcd", "_law_gcd", defArgs sx_law_gcd, defBody sx_law_gcd, defScope sx_law_gcd, [], []⟩
def Dx_law_int : He.DefD := ⟨("_law_int", none), "_law_int", "_law_int", defArgs sx_law_int, defBody sx_law_int, defScope sx_law_int, [], []⟩
def Dx_law_right : He.DefD := ⟨("_law_right", none), "_law_right", "_law_right", defArgs sx_law_right, defBody sx_law_right, defScope sx_law_right, [], []⟩
def Dx_law_low : He.DefD := ⟨("_law_low", none), "_law_low", "_law_low", defArgs sx_law_low, defBody sx_law_low, defScope sx_law_low, [], []⟩
def Dx_law_sum : He.DefD := ⟨("_law_sum", none), "_law_sum", "_law_sum", defArgs sx_law_sum, defBody sx_law_sum, defScope sx_law_sum, [], []⟩
def Dx_law_mul : He.DefD := ⟨("_law_mul", none), "_law_mul", "_law_mul", defArgs sx_law_mul, defBody sx_law_mul, defScope sx_law_mul, [], []⟩
def Dx_law_row_right : He.DefD := ⟨("_law_row_right", none), "_law_row_right", "_law_row_right", defArgs sx_law_row_right, defBody sx_law_row_right, defScope sx_law_row_right, [], []⟩
def Dx_law_under : He.DefD := ⟨("_law_under", none), "_law_under", "_law_under", defArgs sx_law_under, defBody sx_law_under, defScope sx_law_under, [], []⟩
def Dx_law_prize : He.DefD := ⟨("_law_prize", none), "_law_prize", "_law_prize", defArgs sx_law_prize, defBody sx_law_prize, defScope sx_law_prize, [], []⟩
def Dx_law_hand : He.DefD := ⟨("_law_hand", none), "_law_hand", "_law_hand", defArgs sx_law_hand, defBody sx_law_hand, defScope sx_law_hand, [], []⟩
def Dx_law_some_blocks : He.DefD := ⟨("_law_some_blocks", none), "_law_some_blocks", "_law_some_blocks", defArgs sx_law_some_blocks, defBody sx_law_some_blocks, defScope sx_law_some_blocks, [], []⟩
def Dx_law_counted : He.DefD := ⟨("_law_counted", none), "_law_counted", "_law_counted", defArgs sx_law_counted, defBody sx_law_counted, defScope sx_law_counted, [], []⟩
def Dx_law_first_alike : He.DefD := ⟨("_law_first_alike", none), "_law_first_alike", "_law_first_alike", defArgs sx_law_first_alike, defBody sx_law_first_alike, defScope sx_law_first_alike, [], []⟩
def Dx_law_refused_k81 : He.DefD := ⟨("_law_refused", none), "_law_refused", "_law_refused", defArgs sx_law_refused_k81, defBody sx_law_refused_k81, defScope sx_law_refused_k81, [], []⟩
def Dx_law_falls : He.DefD := ⟨("_law_falls", none), "_law_falls", "_law_falls", defArgs sx_law_falls, defBody sx_law_falls, defScope sx_law_falls, [], []⟩
def Dx_law_uneven : He.DefD := ⟨("_law_uneven", none), "_law_uneven", "_law_uneven", defArgs sx_law_uneven, defBody sx_law_uneven, defScope sx_law_uneven, [], []⟩
def Dx_law_doors_k81 : He.DefD := ⟨("_law_doors", none), "_law_doors", "_law_doors", defArgs sx_law_doors_k81, defBody sx_law_doors_k81, defScope sx_law_doors_k81, [], []⟩
def Dlaw_k81 : He.DefD := ⟨("law", none), "law", "law", defArgs slaw_k81, defBody slaw_k81, defScope slaw_k81, [], []⟩
def D_BadNumber : He.DefD := ⟨("BadNumber", some "__init__"), "__init__", "BadNumber.__init__", defArgs s_BadNumber, defBody s_BadNumber, defScope s_BadNumber, [], []⟩
def D_BadFraction : He.DefD := ⟨("BadFraction", some "__init__"), "__init__", "BadFraction.__init__", defArgs s_BadFraction, defBody s_BadFraction, defScope s_BadFraction, [], []⟩
def D_BadBlocks : He.DefD := ⟨("BadBlocks", some "__init__"), "__init__", "BadBlocks.__init__", defArgs s_BadBlocks, defBody s_BadBlocks, defScope s_BadBlocks, [], []⟩
def D_BadPrize : He.DefD := ⟨("BadPrize", some "__init__"), "__init__", "BadPrize.__init__", defArgs s_BadPrize, defBody s_BadPrize, defScope s_BadPrize, [], []⟩
def fn : List He.DefD := [Dis_whole, Dx_ratios_lowest, Dfraction_of, Dadded, Dtimes, Dcompare, Dx_lots_size, Dlot_from, Dall_lots, Dcheck_blocks, Dx_prizes_entries, Dstop_size, Dprize_of, Damounts_of, Dby_number, Dprize_sum, Drising_break, Dcounts_of, Dcounts_break, Dx_law_pool, Dx_law_pick, Dx_law_size, Dx_law_lots, Dx_law_number, Dx_law_gcd, Dx_law_int, Dx_law_right, Dx_law_low, Dx_law_sum, Dx_law_mul, Dx_law_row_right, Dx_law_under, Dx_law_prize, Dx_law_hand, Dx_law_some_blocks, Dx_law_counted, Dx_law_first_alike, Dx_law_refused_k81, Dx_law_falls, Dx_law_uneven, Dx_law_doors_k81, Dlaw_k81, D_BadNumber, D_BadFraction, D_BadBlocks, D_BadPrize]
def fa_0 : List He.Fa := [.glo "is_whole", .glo "_ratios_lowest", .glo "fraction_of", .glo "added", .glo "times", .glo "compare", .glo "_lots_size", .glo "lot_from", .glo "all_lots", .glo "check_blocks", .glo "_prizes_entries", .glo "stop_size"]
def fa_1 : List He.Fa := [.glo "prize_of", .glo "amounts_of", .glo "by_number", .glo "prize_sum", .glo "rising_break", .glo "counts_of", .glo "counts_break", .glo "_law_pool", .glo "_law_pick", .glo "_law_size", .glo "_law_lots", .glo "_law_number"]
def fa_2 : List He.Fa := [.glo "_law_gcd", .glo "_law_int", .glo "_law_right", .glo "_law_low", .glo "_law_sum", .glo "_law_mul", .glo "_law_row_right", .glo "_law_under", .glo "_law_prize", .glo "_law_hand", .glo "_law_some_blocks", .glo "_law_counted"]
def fa_3 : List He.Fa := [.glo "_law_first_alike", .glo "_law_refused", .glo "_law_falls", .glo "_law_uneven", .glo "_law_doors", .glo "law", .glo "BadNumber", .glo "BadFraction", .glo "BadBlocks", .glo "BadPrize", .glo "RatesError", .free "abs"]
def fa_4 : List He.Fa := [.free "bool", .free "enumerate", .free "int", .free "isinstance", .free "len", .free "list", .free "max", .free "min", .free "range", .free "sorted", .free "sum", .free "tuple"]
def fa_5 : List He.Fa := [.free "zip", .exm "BadNumber" "BadNumber" true, .exm "BadNumber" "BadFraction" false, .exm "BadNumber" "BadBlocks" false, .exm "BadNumber" "BadPrize" false, .exm "BadFraction" "BadNumber" false, .exm "BadFraction" "BadFraction" true, .exm "BadFraction" "BadBlocks" false, .exm "BadFraction" "BadPrize" false, .exm "BadBlocks" "BadNumber" false, .exm "BadBlocks" "BadFraction" false, .exm "BadBlocks" "BadBlocks" true]
def fa_6 : List He.Fa := [.exm "BadBlocks" "BadPrize" false, .exm "BadPrize" "BadNumber" false, .exm "BadPrize" "BadFraction" false, .exm "BadPrize" "BadBlocks" false, .exm "BadPrize" "BadPrize" true]
def fa : List He.Fa := fa_0 ++ fa_1 ++ fa_2 ++ fa_3 ++ fa_4 ++ fa_5 ++ fa_6
def loose_0 : List Str := ["gcd", "RatesError", "BadNumber", "BadFraction", "BadBlocks", "is_whole", "_ratios_lowest", "fraction_of", "added", "times", "compare", "_lots_size"]
def loose_1 : List Str := ["lot_from", "all_lots", "check_blocks", "BadPrize", "_prizes_entries", "stop_size", "prize_of", "amounts_of", "by_number", "prize_sum", "rising_break", "counts_of"]
def loose_2 : List Str := ["counts_break", "_law_pool", "_law_pick", "_law_size", "_law_lots", "_law_number", "_law_gcd", "_law_int", "_law_right", "_law_low", "_law_sum", "_law_mul"]
def loose_3 : List Str := ["_law_row_right", "_law_under", "_law_prize", "_law_hand", "_law_some_blocks", "_law_counted", "_law_first_alike", "_law_refused", "_law_falls", "_law_uneven", "_law_doors"]
def loose : List Str := loose_0 ++ loose_1 ++ loose_2 ++ loose_3
def ex (K : PySem.W.Frag) : Bool := (errB K "BadNumber" "name" && (errB K "BadFraction" "name" && (errB K "BadBlocks" "place" && (errB K "BadPrize" "at" && (He.eqO (PySem.W.nsIn K mainGlobals "gcd") (some (some (.builtin "math.gcd"))) && (decide (PySem.W.kitOne K (.ref (He.ga K "BadBlocks")) (.ref (He.ga K "RatesError")) = some true) && (decide (PySem.W.kitOne K (.ref (He.ga K "BadFraction")) (.ref (He.ga K "BadPrize")) = some false) && (decide (PySem.W.kitOne K (.ref (He.ga K "BadFraction")) (.ref (He.ga K "RatesError")) = some true) && (decide (PySem.W.kitOne K (.ref (He.ga K "BadNumber")) (.ref (He.ga K "BadFraction")) = some false) && (decide (PySem.W.kitOne K (.ref (He.ga K "BadNumber")) (.ref (He.ga K "RatesError")) = some true) && (decide (PySem.W.kitOne K (.ref (He.ga K "BadPrize")) (.ref (He.ga K "BadNumber")) = some false) && (decide (PySem.W.kitOne K (.ref (He.ga K "BadPrize")) (.ref (He.ga K "RatesError")) = some true) && true))))))))))))
abbrev R : PySem.W.OpenRow := PySem.W.OpenLaw.row PySem.Challenge.rw_copiedby_k81_prizes_by_number_and_counts
abbrev hk : PySem.W.Hook := He.hookX 5 fa fn [] [] ex
def ob (s : PySem.W.SharedT) : He.AlX := He.obsX 5 fa fn [] [] ex (HandSHeadRun.getT s)
theorem ob_eq (s : PySem.W.SharedT) : ob s = hk.obs s.abs := He.obsX_eq (HandSHeadRun.getT_eq s)
theorem run (w : World) : CbH.RunI R (PySem.W.view R.prog [53]) hk ob 2000 4000 loose w := by
  unfold CbH.RunI
  kernel_rfl
theorem S_BadNumber : FnScope ["self", "name"] ["self", "name"] (defScope s_BadNumber) := ⟨rfl, rfl, rfl, by decide +kernel, rfl, by decide +kernel, by decide +kernel⟩
theorem er_BadNumber {P : Program} {w : World} {K : PySem.W.Frag} {mg : Str → Option Value} {base : Heap} {B : Tab} {fd : FuncData} (Ef : ErrF K "BadNumber" "name") (hk : 0 ∈ B.ks) (hc : B.err 0 = He.ga K "BadNumber") (hf : B.fld 0 = "name") (hg : mg "BadNumber" = some (.ref (He.ga K "BadNumber")))
    (F : FunD K "__init__" "BadNumber.__init__" (defArgs s_BadNumber) (defBody s_BadNumber) (defScope s_BadNumber) [] [] (He.fAd K ("BadNumber", some "__init__")) fd) : ErrC P w K mg base B 0 "BadNumber" :=
  err_of Ef hk hc hf hg F S_BadNumber rfl rfl (F.bindsN fun _ _ _ _ _ _ us hl => match us, hl with | [_, _], _ => rfl) (fun CX cdv A outer s H E => pss_one (ps_ost (pv 0) (pv 1))) (fun CX cdv A outer s H E p => pss_one (ps_ost (pv 0) (pv 1)))
theorem S_BadFraction : FnScope ["self", "name"] ["self", "name"] (defScope s_BadFraction) := ⟨rfl, rfl, rfl, by decide +kernel, rfl, by decide +kernel, by decide +kernel⟩
theorem er_BadFraction {P : Program} {w : World} {K : PySem.W.Frag} {mg : Str → Option Value} {base : Heap} {B : Tab} {fd : FuncData} (Ef : ErrF K "BadFraction" "name") (hk : 1 ∈ B.ks) (hc : B.err 1 = He.ga K "BadFraction") (hf : B.fld 1 = "name") (hg : mg "BadFraction" = some (.ref (He.ga K "BadFraction")))
    (F : FunD K "__init__" "BadFraction.__init__" (defArgs s_BadFraction) (defBody s_BadFraction) (defScope s_BadFraction) [] [] (He.fAd K ("BadFraction", some "__init__")) fd) : ErrC P w K mg base B 1 "BadFraction" :=
  err_of Ef hk hc hf hg F S_BadFraction rfl rfl (F.bindsN fun _ _ _ _ _ _ us hl => match us, hl with | [_, _], _ => rfl) (fun CX cdv A outer s H E => pss_one (ps_ost (pv 0) (pv 1))) (fun CX cdv A outer s H E p => pss_one (ps_ost (pv 0) (pv 1)))
theorem S_BadBlocks : FnScope ["self", "place"] ["self", "place"] (defScope s_BadBlocks) := ⟨rfl, rfl, rfl, by decide +kernel, rfl, by decide +kernel, by decide +kernel⟩
theorem er_BadBlocks {P : Program} {w : World} {K : PySem.W.Frag} {mg : Str → Option Value} {base : Heap} {B : Tab} {fd : FuncData} (Ef : ErrF K "BadBlocks" "place") (hk : 7 ∈ B.ks) (hc : B.err 7 = He.ga K "BadBlocks") (hf : B.fld 7 = "place") (hg : mg "BadBlocks" = some (.ref (He.ga K "BadBlocks")))
    (F : FunD K "__init__" "BadBlocks.__init__" (defArgs s_BadBlocks) (defBody s_BadBlocks) (defScope s_BadBlocks) [] [] (He.fAd K ("BadBlocks", some "__init__")) fd) : ErrC P w K mg base B 7 "BadBlocks" :=
  err_of Ef hk hc hf hg F S_BadBlocks rfl rfl (F.bindsN fun _ _ _ _ _ _ us hl => match us, hl with | [_, _], _ => rfl) (fun CX cdv A outer s H E => pss_one (ps_ost (pv 0) (pv 1))) (fun CX cdv A outer s H E p => pss_one (ps_ost (pv 0) (pv 1)))
theorem S_BadPrize : FnScope ["self", "at"] ["self", "at"] (defScope s_BadPrize) := ⟨rfl, rfl, rfl, by decide +kernel, rfl, by decide +kernel, by decide +kernel⟩
theorem er_BadPrize {P : Program} {w : World} {K : PySem.W.Frag} {mg : Str → Option Value} {base : Heap} {B : Tab} {fd : FuncData} (Ef : ErrF K "BadPrize" "at") (hk : 2 ∈ B.ks) (hc : B.err 2 = He.ga K "BadPrize") (hf : B.fld 2 = "at") (hg : mg "BadPrize" = some (.ref (He.ga K "BadPrize")))
    (F : FunD K "__init__" "BadPrize.__init__" (defArgs s_BadPrize) (defBody s_BadPrize) (defScope s_BadPrize) [] [] (He.fAd K ("BadPrize", some "__init__")) fd) : ErrC P w K mg base B 2 "BadPrize" :=
  err_of Ef hk hc hf hg F S_BadPrize rfl rfl (F.bindsN fun _ _ _ _ _ _ us hl => match us, hl with | [_, _], _ => rfl) (fun CX cdv A outer s H E => pss_one (ps_ost (pv 0) (pv 1))) (fun CX cdv A outer s H E p => pss_one (ps_ost (pv 0) (pv 1)))
def tab (K : PySem.W.Frag) : Tab := ⟨K, fun _ => 0, fun c => match c with | 0 => He.ga K "BadNumber" | 1 => He.ga K "BadFraction" | 7 => He.ga K "BadBlocks" | 2 => He.ga K "BadPrize" | _ => 0, fun c => match c with | 0 => "name" | 1 => "name" | 7 => "place" | 2 => "at" | _ => "", [0, 1, 7, 2]⟩
theorem fx {P : Program} {w : World} {K : PySem.W.Frag} {mg : Str → Option Value} {base h : Heap} (X : K.In h) (Gn : h.Ns mainGlobals mg) (c : He.SaysX fa fn [] [] ex w h K) : Fx P w K mg base (tab K) := by
  obtain ⟨fd_BadNumber, hd_BadNumber⟩ := c.t.d.def_ 42 (d := D_BadNumber) rfl
  obtain ⟨fd_BadFraction, hd_BadFraction⟩ := c.t.d.def_ 43 (d := D_BadFraction) rfl
  obtain ⟨fd_BadBlocks, hd_BadBlocks⟩ := c.t.d.def_ 44 (d := D_BadBlocks) rfl
  obtain ⟨fd_BadPrize, hd_BadPrize⟩ := c.t.d.def_ 45 (d := D_BadPrize) rfl
  obtain ⟨he_BadNumber, hr0⟩ := He.ba c.more
  obtain ⟨he_BadFraction, hr1⟩ := He.ba hr0
  obtain ⟨he_BadBlocks, hr2⟩ := He.ba hr1
  obtain ⟨he_BadPrize, hr3⟩ := He.ba hr2
  obtain ⟨hgcd, hr4⟩ := He.ba hr3
  obtain ⟨hq_BadBlocks_RatesError, hr5⟩ := He.ba hr4
  obtain ⟨hq_BadFraction_BadPrize, hr6⟩ := He.ba hr5
  obtain ⟨hq_BadFraction_RatesError, hr7⟩ := He.ba hr6
  obtain ⟨hq_BadNumber_BadFraction, hr8⟩ := He.ba hr7
  obtain ⟨hq_BadNumber_RatesError, hr9⟩ := He.ba hr8
  obtain ⟨hq_BadPrize_BadNumber, hr10⟩ := He.ba hr9
  obtain ⟨hq_BadPrize_RatesError, hr11⟩ := He.ba hr10
  exact ⟨rfl, c.t.d.def_ 0 (d := Dis_whole) rfl, He.glo_ok X Gn (c.t.d.fact 0 (f := .glo "is_whole") rfl), c.t.d.def_ 1 (d := Dx_ratios_lowest) rfl, He.glo_ok X Gn (c.t.d.fact 1 (f := .glo "_ratios_lowest") rfl), c.t.d.def_ 2 (d := Dfraction_of) rfl, He.glo_ok X Gn (c.t.d.fact 2 (f := .glo "fraction_of") rfl), c.t.d.def_ 3 (d := Dadded) rfl, He.glo_ok X Gn (c.t.d.fact 3 (f := .glo "added") rfl), c.t.d.def_ 4 (d := Dtimes) rfl, He.glo_ok X Gn (c.t.d.fact 4 (f := .glo "times") rfl), c.t.d.def_ 5 (d := Dcompare) rfl, He.glo_ok X Gn (c.t.d.fact 5 (f := .glo "compare") rfl), c.t.d.def_ 6 (d := Dx_lots_size) rfl, He.glo_ok X Gn (c.t.d.fact 6 (f := .glo "_lots_size") rfl), c.t.d.def_ 7 (d := Dlot_from) rfl, He.glo_ok X Gn (c.t.d.fact 7 (f := .glo "lot_from") rfl), c.t.d.def_ 8 (d := Dall_lots) rfl, He.glo_ok X Gn (c.t.d.fact 8 (f := .glo "all_lots") rfl), c.t.d.def_ 9 (d := Dcheck_blocks) rfl, He.glo_ok X Gn (c.t.d.fact 9 (f := .glo "check_blocks") rfl), c.t.d.def_ 10 (d := Dx_prizes_entries) rfl, He.glo_ok X Gn (c.t.d.fact 10 (f := .glo "_prizes_entries") rfl), c.t.d.def_ 11 (d := Dstop_size) rfl, He.glo_ok X Gn (c.t.d.fact 11 (f := .glo "stop_size") rfl), c.t.d.def_ 12 (d := Dprize_of) rfl, He.glo_ok X Gn (c.t.d.fact 12 (f := .glo "prize_of") rfl), c.t.d.def_ 13 (d := Damounts_of) rfl, He.glo_ok X Gn (c.t.d.fact 13 (f := .glo "amounts_of") rfl), c.t.d.def_ 14 (d := Dby_number) rfl, He.glo_ok X Gn (c.t.d.fact 14 (f := .glo "by_number") rfl), c.t.d.def_ 15 (d := Dprize_sum) rfl, He.glo_ok X Gn (c.t.d.fact 15 (f := .glo "prize_sum") rfl), c.t.d.def_ 16 (d := Drising_break) rfl, He.glo_ok X Gn (c.t.d.fact 16 (f := .glo "rising_break") rfl), c.t.d.def_ 17 (d := Dcounts_of) rfl, He.glo_ok X Gn (c.t.d.fact 17 (f := .glo "counts_of") rfl), c.t.d.def_ 18 (d := Dcounts_break) rfl, He.glo_ok X Gn (c.t.d.fact 18 (f := .glo "counts_break") rfl), c.t.d.def_ 19 (d := Dx_law_pool) rfl, He.glo_ok X Gn (c.t.d.fact 19 (f := .glo "_law_pool") rfl), c.t.d.def_ 20 (d := Dx_law_pick) rfl, He.glo_ok X Gn (c.t.d.fact 20 (f := .glo "_law_pick") rfl), c.t.d.def_ 21 (d := Dx_law_size) rfl, He.glo_ok X Gn (c.t.d.fact 21 (f := .glo "_law_size") rfl), c.t.d.def_ 22 (d := Dx_law_lots) rfl, He.glo_ok X Gn (c.t.d.fact 22 (f := .glo "_law_lots") rfl), c.t.d.def_ 23 (d := Dx_law_number) rfl, He.glo_ok X Gn (c.t.d.fact 23 (f := .glo "_law_number") rfl), c.t.d.def_ 24 (d := Dx_law_gcd) rfl, He.glo_ok X Gn (c.t.d.fact 24 (f := .glo "_law_gcd") rfl), c.t.d.def_ 25 (d := Dx_law_int) rfl, He.glo_ok X Gn (c.t.d.fact 25 (f := .glo "_law_int") rfl), c.t.d.def_ 26 (d := Dx_law_right) rfl, He.glo_ok X Gn (c.t.d.fact 26 (f := .glo "_law_right") rfl), c.t.d.def_ 27 (d := Dx_law_low) rfl, He.glo_ok X Gn (c.t.d.fact 27 (f := .glo "_law_low") rfl), c.t.d.def_ 28 (d := Dx_law_sum) rfl, He.glo_ok X Gn (c.t.d.fact 28 (f := .glo "_law_sum") rfl), c.t.d.def_ 29 (d := Dx_law_mul) rfl, He.glo_ok X Gn (c.t.d.fact 29 (f := .glo "_law_mul") rfl), c.t.d.def_ 30 (d := Dx_law_row_right) rfl, He.glo_ok X Gn (c.t.d.fact 30 (f := .glo "_law_row_right") rfl), c.t.d.def_ 31 (d := Dx_law_under) rfl, He.glo_ok X Gn (c.t.d.fact 31 (f := .glo "_law_under") rfl), c.t.d.def_ 32 (d := Dx_law_prize) rfl, He.glo_ok X Gn (c.t.d.fact 32 (f := .glo "_law_prize") rfl), c.t.d.def_ 33 (d := Dx_law_hand) rfl, He.glo_ok X Gn (c.t.d.fact 33 (f := .glo "_law_hand") rfl), c.t.d.def_ 34 (d := Dx_law_some_blocks) rfl, He.glo_ok X Gn (c.t.d.fact 34 (f := .glo "_law_some_blocks") rfl), c.t.d.def_ 35 (d := Dx_law_counted) rfl, He.glo_ok X Gn (c.t.d.fact 35 (f := .glo "_law_counted") rfl), c.t.d.def_ 36 (d := Dx_law_first_alike) rfl, He.glo_ok X Gn (c.t.d.fact 36 (f := .glo "_law_first_alike") rfl), c.t.d.def_ 37 (d := Dx_law_refused_k81) rfl, He.glo_ok X Gn (c.t.d.fact 37 (f := .glo "_law_refused") rfl), c.t.d.def_ 38 (d := Dx_law_falls) rfl, He.glo_ok X Gn (c.t.d.fact 38 (f := .glo "_law_falls") rfl), c.t.d.def_ 39 (d := Dx_law_uneven) rfl, He.glo_ok X Gn (c.t.d.fact 39 (f := .glo "_law_uneven") rfl), c.t.d.def_ 40 (d := Dx_law_doors_k81) rfl, He.glo_ok X Gn (c.t.d.fact 40 (f := .glo "_law_doors") rfl), c.t.d.def_ 41 (d := Dlaw_k81) rfl, He.glo_ok X Gn (c.t.d.fact 41 (f := .glo "law") rfl), He.free_ok X Gn (c.t.d.fact 47 (f := .free "abs") rfl), He.free_ok X Gn (c.t.d.fact 48 (f := .free "bool") rfl), He.free_ok X Gn (c.t.d.fact 49 (f := .free "enumerate") rfl), PySem.W.mg_of X Gn (He.eqO_ok hgcd), He.free_ok X Gn (c.t.d.fact 50 (f := .free "int") rfl), He.free_ok X Gn (c.t.d.fact 51 (f := .free "isinstance") rfl), He.free_ok X Gn (c.t.d.fact 52 (f := .free "len") rfl), He.free_ok X Gn (c.t.d.fact 53 (f := .free "list") rfl), He.free_ok X Gn (c.t.d.fact 54 (f := .free "max") rfl), He.free_ok X Gn (c.t.d.fact 55 (f := .free "min") rfl), He.free_ok X Gn (c.t.d.fact 56 (f := .free "range") rfl), He.free_ok X Gn (c.t.d.fact 57 (f := .free "sorted") rfl), He.free_ok X Gn (c.t.d.fact 58 (f := .free "sum") rfl), He.free_ok X Gn (c.t.d.fact 59 (f := .free "tuple") rfl), He.free_ok X Gn (c.t.d.fact 60 (f := .free "zip") rfl), er_BadNumber (errB_ok he_BadNumber) (.head _) rfl rfl (He.glo_ok X Gn (c.t.d.fact 42 (f := .glo "BadNumber") rfl)) hd_BadNumber, (List.forall_mem_cons.mpr ⟨He.exm_ok (c.t.d.fact 61 (f := .exm "BadNumber" "BadNumber" true) rfl), (List.forall_mem_cons.mpr ⟨He.exm_ok (c.t.d.fact 65 (f := .exm "BadFraction" "BadNumber" false) rfl), (List.forall_mem_cons.mpr ⟨He.exm_ok (c.t.d.fact 69 (f := .exm "BadBlocks" "BadNumber" false) rfl), (List.forall_mem_cons.mpr ⟨He.exm_ok (c.t.d.fact 73 (f := .exm "BadPrize" "BadNumber" false) rfl), (fun _ hq => absurd hq List.not_mem_nil)⟩)⟩)⟩)⟩), rfl, er_BadFraction (errB_ok he_BadFraction) (.tail _ (.head _)) rfl rfl (He.glo_ok X Gn (c.t.d.fact 43 (f := .glo "BadFraction") rfl)) hd_BadFraction, (List.forall_mem_cons.mpr ⟨He.exm_ok (c.t.d.fact 62 (f := .exm "BadNumber" "BadFraction" false) rfl), (List.forall_mem_cons.mpr ⟨He.exm_ok (c.t.d.fact 66 (f := .exm "BadFraction" "BadFraction" true) rfl), (List.forall_mem_cons.mpr ⟨He.exm_ok (c.t.d.fact 70 (f := .exm "BadBlocks" "BadFraction" false) rfl), (List.forall_mem_cons.mpr ⟨He.exm_ok (c.t.d.fact 74 (f := .exm "BadPrize" "BadFraction" false) rfl), (fun _ hq => absurd hq List.not_mem_nil)⟩)⟩)⟩)⟩), rfl, er_BadBlocks (errB_ok he_BadBlocks) (.tail _ (.tail _ (.head _))) rfl rfl (He.glo_ok X Gn (c.t.d.fact 44 (f := .glo "BadBlocks") rfl)) hd_BadBlocks, (List.forall_mem_cons.mpr ⟨He.exm_ok (c.t.d.fact 63 (f := .exm "BadNumber" "BadBlocks" false) rfl), (List.forall_mem_cons.mpr ⟨He.exm_ok (c.t.d.fact 67 (f := .exm "BadFraction" "BadBlocks" false) rfl), (List.forall_mem_cons.mpr ⟨He.exm_ok (c.t.d.fact 71 (f := .exm "BadBlocks" "BadBlocks" true) rfl), (List.forall_mem_cons.mpr ⟨He.exm_ok (c.t.d.fact 75 (f := .exm "BadPrize" "BadBlocks" false) rfl), (fun _ hq => absurd hq List.not_mem_nil)⟩)⟩)⟩)⟩), rfl, er_BadPrize (errB_ok he_BadPrize) (.tail _ (.tail _ (.tail _ (.head _)))) rfl rfl (He.glo_ok X Gn (c.t.d.fact 45 (f := .glo "BadPrize") rfl)) hd_BadPrize, (List.forall_mem_cons.mpr ⟨He.exm_ok (c.t.d.fact 64 (f := .exm "BadNumber" "BadPrize" false) rfl), (List.forall_mem_cons.mpr ⟨He.exm_ok (c.t.d.fact 68 (f := .exm "BadFraction" "BadPrize" false) rfl), (List.forall_mem_cons.mpr ⟨He.exm_ok (c.t.d.fact 72 (f := .exm "BadBlocks" "BadPrize" false) rfl), (List.forall_mem_cons.mpr ⟨He.exm_ok (c.t.d.fact 76 (f := .exm "BadPrize" "BadPrize" true) rfl), (fun _ hq => absurd hq List.not_mem_nil)⟩)⟩)⟩)⟩), rfl, He.glo_ok X Gn (c.t.d.fact 46 (f := .glo "RatesError") rfl), of_decide_eq_true hq_BadBlocks_RatesError, of_decide_eq_true hq_BadFraction_BadPrize, of_decide_eq_true hq_BadFraction_RatesError, of_decide_eq_true hq_BadNumber_BadFraction, of_decide_eq_true hq_BadNumber_RatesError, of_decide_eq_true hq_BadPrize_BadNumber, of_decide_eq_true hq_BadPrize_RatesError⟩
theorem head (plain : ∀ ns : List Int, ns.length ≤ 63 → (∀ z ∈ ns, Builtin.Int.intBits z ≤ 1048576) → ∃ h', Flaw_k81 [.fix ns] [] = .ok (.bl true) h') : PySem.Challenge.rw_copiedby_k81_prizes_by_number_and_counts.Holds := by
  w_on; o_law
  refine CbH.head_imp (r := PySem.W.OpenLaw.row PySem.Challenge.rw_copiedby_k81_prizes_by_number_and_counts) (q := PySem.W.view (PySem.W.OpenLaw.row PySem.Challenge.rw_copiedby_k81_prizes_by_number_and_counts).prog [53]) (H := hk) (ob := ob) (M0 := 2000) (M := 4000) (loose := loose) (d := HandSHeadRun.topDef (PySem.W.OpenLaw.row PySem.Challenge.rw_copiedby_k81_prizes_by_number_and_counts).prog 53) (kwd := []) ob_eq
    run (by kernel_rfl) (by kernel_rfl) (by kernel_rfl) (by rfl) (by first | assumption | decide +kernel) (by decide +kernel) ⟨rfl, rfl, rfl, rfl, rfl, by decide +kernel⟩ ?hw ?hc
  case hw => w_witness2
  case hc =>
    refine walk_EB (l := PySem.Challenge.rw_copiedby_k81_prizes_by_number_and_counts) (n := 63) (k := 9) (x := "script") rfl (by decide) (by kernel_rfl) ⟨rfl, by decide, by decide⟩ ?F
    intro w mg fa h Y Gn hmg0
    obtain ⟨K, KX, c⟩ := Y
    have hmg : mg ("law" : PySem.Str) = some (.ref fa) := by
      have e : (HandSHeadRun.topDef (PySem.W.OpenLaw.row PySem.Challenge.rw_copiedby_k81_prizes_by_number_and_counts).prog 53).name = ("law" : PySem.Str) := by kernel_rfl
      rw [← e]
      exact hmg0
    have Z0 := fx (P := (PySem.Challenge.rw_copiedby_k81_prizes_by_number_and_counts).prog) (w := w) (base := h) KX Gn c
    have ea := hmg.symm.trans Z0.glaw_k81
    cases ea
    have b := FunD.bindsA (ps := ["script"]) Z0.dlaw_k81.choose_spec fun _ _ _ _ _ _ us hl => match us, hl with | [_], _ => rfl
    refine ⟨K, Z0.dlaw_k81.choose, spD (tab K) 1 Flaw_k81, KX, fun s v => b s [v] rfl, fun H a ns hl hbits _ hS => ?_, fun base hb hn => ?_⟩
    · obtain ⟨h', e⟩ := plain ns hl hbits
      exact law_sp hS e
    · exact oklaw_k81 (fx (base := base) KX Gn c)
end K81
/-! Plain laws, part 0: how the mirrors evaluate. -/
namespace Sh
open PySem Cb

/-! ### results -/
@[simp] theorem bind_ok {α β : Type} (a : α) (h : AH) (k : α → AH → Res β) : (Res.ok a h).bind k = k a h := rfl
@[simp] theorem bind_exc {α β : Type} (c : Nat) (d : D) (h : AH) (k : α → AH → Res β) : (Res.exc c d h : Res α).bind k = .exc c d h := rfl
@[simp] theorem bindS_ok {α : Type} (a : α) (h : AH) (en : En) (k : α → AH → RS) : (Res.ok a h).bindS en k = k a h := rfl
@[simp] theorem bindS_exc {α : Type} (c : Nat) (d : D) (h : AH) (en : En) (k : α → AH → RS) : (Res.exc c d h : Res α).bindS en k = .exc c d en h := rfl
@[simp] theorem noX_ok {α : Type} (a : α) (h : AH) : (Res.ok a h).noX = .ok a h := rfl
@[simp] theorem seq_nx (en : En) (h : AH) (k : En → AH → RS) : (RS.nx en h).seq k = k en h := rfl
@[simp] theorem seq_ret (d : D) (h : AH) (k : En → AH → RS) : (RS.ret d h).seq k = .ret d h := rfl
@[simp] theorem seq_brk (en : En) (h : AH) (k : En → AH → RS) : (RS.brk en h).seq k = .brk en h := rfl
@[simp] theorem seq_cont (en : En) (h : AH) (k : En → AH → RS) : (RS.cont en h).seq k = .cont en h := rfl
@[simp] theorem seq_exc (c : Nat) (d : D) (en : En) (h : AH) (k : En → AH → RS) : (RS.exc c d en h).seq k = .exc c d en h := rfl

/-! ### statements -/
@[simp] theorem a_seq (f g : En → AH → RS) (en : En) (h : AH) : seq f g en h = (f en h).seq g := rfl
@[simp] theorem a_expr (f : En → AH → Res D) (en : En) (h : AH) : sExpr f en h = (f en h).bindS en fun _ h1 => .nx en h1 := rfl
@[simp] theorem a_ret (f : En → AH → Res D) (en : En) (h : AH) : sRet f en h = (f en h).bindS en fun d h1 => .ret d h1 := rfl
@[simp] theorem a_if (gc : En → AH → Res Bool) (f g : En → AH → RS) (en : En) (h : AH) : sIf gc f g en h = (gc en h).bindS en fun k h1 => bif k then f en h1 else g en h1 := rfl
@[simp] theorem a_set (i : Nat) (f : En → AH → Res D) (en : En) (h : AH) : sSet i f en h = (f en h).bindS en fun d h1 => .nx (en.set i (some d)) h1 := rfl
@[simp] theorem a_asg (g : D → En → Option En) (f : En → AH → Res D) (en : En) (h : AH) : sAsg g f en h = (f en h).bindS en (goG g en) := rfl
@[simp] theorem a_par (i j : Nat) (fa fb : En → AH → Res D) (en : En) (h : AH) : sPar i j fa fb en h = (fa en h).bindS en fun d h1 => (fb en h1).bindS en fun e h2 => .nx ((en.set i (some d)).set j (some e)) h2 := rfl
@[simp] theorem a_raise (c : Nat) (f : En → AH → Res D) (en : En) (h : AH) : sRaise c f en h = (f en h).bindS en fun d h1 => .exc c d en h1 := rfl
@[simp] theorem a_for (fi : En → AH → Res Wk) (g : D → En → Option En) (b : En → AH → RS) (en : En) (h : AH) : sFor fi g b en h = (fi en h).bindS en fun w h1 => forL w.src g b w.items en h1 := rfl
@[simp] theorem a_sto (fo fi fe : En → AH → Res D) (en : En) (h : AH) : sSto fo fi fe en h = (fe en h).bindS en fun d h1 => (fo en h1).bindS en fun x h2 => (fi en h2).bindS en fun i h3 => goSt en x i d h3 := rfl
@[simp] theorem a_augS (op : D → D → AH → Res D) (fo fi fe : En → AH → Res D) (en : En) (h : AH) : sAugS op fo fi fe en h = (fo en h).bindS en fun x h1 => (fi en h1).bindS en fun i h2 => (gtC x i h2).bindS en fun d h3 => (fe en h3).bindS en fun y h4 => (op d y h4).bindS en fun z h5 => goSt en x i z h5 := rfl
@[simp] theorem a_goG (g : D → En → Option En) (en en' : En) (d : D) (h : AH) (e : g d en = some en') : goG g en d h = .nx en' h := by unfold goG; rw [e]
@[simp] theorem a_gN (i : Nat) (d : D) (en : En) : gN i d en = some (en.set i (some d)) := rfl
@[simp] theorem a_gs0 (en : En) : gs0 [] en = some en := rfl
@[simp] theorem a_gs1 (f : D → En → Option En) (g : List D → En → Option En) (d : D) (ds : List D) (en : En) : gs1 f g (d :: ds) en = (f d en).bind (g ds) := rfl
@[simp] theorem a_gT (n : Nat) (g : List D → En → Option En) (l : List D) (en : En) : gT n g (.tup l) en = bif l.length == n then g l en else none := rfl
@[simp] theorem a_gTl (n : Nat) (g : List D → En → Option En) (l : List D) (en : En) : gT n g (.lst l) en = bif l.length == n then g l en else none := rfl

/-! ### expressions -/
@[simp] theorem var_z (d : D) (r : En) (h : AH) : var 0 (some d :: r) h = .ok d h := rfl
@[simp] theorem var_s (i : Nat) (x : Option D) (r : En) (h : AH) : var (i + 1) (x :: r) h = var i r h := rfl
theorem a_var (i : Nat) (en : En) (h : AH) (d : D) (e : en[i]? = some (some d)) : var i en h = .ok d h := by unfold var; rw [e]
@[simp] theorem a_acons (f : En → AH → Res D) (g : En → AH → Res (List D)) (en : En) (h : AH) : acons f g en h = (f en h).bind fun d h1 => (g en h1).bind fun ds h2 => .ok (d :: ds) h2 := rfl
@[simp] theorem a_dsp (mk : List D → AH → Res D) (fs : En → AH → Res (List D)) (en : En) (h : AH) : dsp mk fs en h = (fs en h).bind mk := rfl
@[simp] theorem a_bin (o : D → D → AH → Res D) (fa fb : En → AH → Res D) (en : En) (h : AH) : bin o fa fb en h = (fa en h).bind fun x h1 => (fb en h1).bind fun y h2 => o x y h2 := rfl
@[simp] theorem a_una (o : D → AH → Res D) (fa : En → AH → Res D) (en : En) (h : AH) : una o fa en h = (fa en h).bind o := rfl
@[simp] theorem a_tcm (o : D → D → AH → Res D) (fa fb : En → AH → Res D) (en : En) (h : AH) : tcm o fa fb en h = (bin o fa fb en h).bind asB := rfl
@[simp] theorem a_asB (b : Bool) (h : AH) : asB (.bl b) h = .ok b h := rfl
@[simp] theorem a_tst (fa : En → AH → Res D) (en : En) (h : AH) : tst fa en h = (fa en h).bind fun d h1 => match tru h1 d with | some b => .ok b h1 | none => .stuck := rfl
@[simp] theorem a_trub (b : Bool) (h : AH) : tru h (.bl b) = some b := rfl
@[simp] theorem a_trui (i : Int) (h : AH) : tru h (.int i) = some (i != 0) := rfl
@[simp] theorem a_trun (h : AH) : tru h .non = some false := rfl
@[simp] theorem a_trut (l : List D) (h : AH) : tru h (.tup l) = some (!l.isEmpty) := rfl
@[simp] theorem a_trul (l : List D) (h : AH) : tru h (.lst l) = some (!l.isEmpty) := rfl
@[simp] theorem a_tnot (ga : En → AH → Res Bool) (en : En) (h : AH) : tnot ga en h = (ga en h).bind fun k h1 => .ok (!k) h1 := rfl
@[simp] theorem a_tand (ga gb : En → AH → Res Bool) (en : En) (h : AH) : tand ga gb en h = (ga en h).bind fun k h1 => bif k then gb en h1 else .ok false h1 := rfl
@[simp] theorem a_tor (ga gb : En → AH → Res Bool) (en : En) (h : AH) : tor ga gb en h = (ga en h).bind fun k h1 => bif k then .ok true h1 else gb en h1 := rfl
@[simp] theorem a_vand (fa fb : En → AH → Res D) (en : En) (h : AH) : vand fa fb en h = (fa en h).bind fun d h1 => match d with | .bl true => fb en h1 | .bl false => .ok (.bl false) h1 | _ => .stuck := rfl
@[simp] theorem a_vor (fa fb : En → AH → Res D) (en : En) (h : AH) : vor fa fb en h = (fa en h).bind fun d h1 => match d with | .bl true => .ok (.bl true) h1 | .bl false => fb en h1 | _ => .stuck := rfl
@[simp] theorem a_vnot (k : Bool) (h : AH) : vnot (.bl k) h = .ok (.bl (!k)) h := rfl
@[simp] theorem a_vif (gc : En → AH → Res Bool) (fa fb : En → AH → Res D) (en : En) (h : AH) : vif gc fa fb en h = (gc en h).bind fun k h1 => bif k then fa en h1 else fb en h1 := rfl
@[simp] theorem a_chn (o o' : D → D → AH → Res D) (fa fb fc : En → AH → Res D) (en : En) (h : AH) : chn o o' fa fb fc en h = (fa en h).bind fun x h1 => (fb en h1).bind fun y h2 => (o x y h2).bind fun z h3 => match z with | .bl true => (fc en h3).bind fun u h4 => o' y u h4 | .bl false => .ok (.bl false) h3 | _ => .stuck := rfl
@[simp] theorem a_cal (dds : List D) (n : Nat) (fn : List D → AH → Res D) (fas : En → AH → Res (List D)) (en : En) (h : AH) : cal dds n fn fas en h = (fas en h).bind fun ds h1 => bif ds.length + dds.length == n then fn (ds ++ dds) h1 else .stuck := rfl

/-! ### operations -/
section
variable (i j : Int) (h : AH)
@[simp] theorem o_add : dAdd (.int i) (.int j) h = .ok (.int (i + j)) h := rfl
@[simp] theorem o_sub : dSub (.int i) (.int j) h = .ok (.int (i - j)) h := rfl
@[simp] theorem o_and : dAnd (.int i) (.int j) h = .ok (.int (Builtin.bitAnd i j)) h := rfl
@[simp] theorem o_or : dOr (.int i) (.int j) h = .ok (.int (Builtin.bitOr i j)) h := rfl
@[simp] theorem o_xor : dXor (.int i) (.int j) h = .ok (.int (Builtin.bitXor i j)) h := rfl
@[simp] theorem o_neg : dNeg (.int i) h = .ok (.int (-i)) h := rfl
@[simp] theorem o_inv : dInv (.int i) h = .ok (.int (Builtin.bitNot i)) h := rfl
@[simp] theorem o_lt : dLt (.int i) (.int j) h = .ok (.bl (decide (i < j))) h := rfl
@[simp] theorem o_le : dLe (.int i) (.int j) h = .ok (.bl (decide (i ≤ j))) h := rfl
@[simp] theorem o_gt : dGt (.int i) (.int j) h = .ok (.bl (decide (j < i))) h := rfl
@[simp] theorem o_ge : dGe (.int i) (.int j) h = .ok (.bl (decide (j ≤ i))) h := rfl
@[simp] theorem o_bits : dBits (.int i) h = .ok (.int (bits i : Nat)) h := rfl
@[simp] theorem o_abs : bAbs [.int i] h = .ok (.int (if i < 0 then -i else i)) h := rfl
@[simp] theorem o_max2 : bMax2 [.int i, .int j] h = .ok (.int (if j > i then j else i)) h := rfl
@[simp] theorem o_min2 : bMin2 [.int i, .int j] h = .ok (.int (if j < i then j else i)) h := rfl
@[simp] theorem o_gcd : bGcd [.int i, .int j] h = .ok (.int ((Nat.gcd i.natAbs j.natAbs : Nat) : Int)) h := rfl
@[simp] theorem o_int : bInt [.int i] h = .ok (.int i) h := rfl
end
@[simp] theorem mkT_0 (h : AH) : mkT [] h = .ok (.tup []) h := rfl
@[simp] theorem mkT_1 (d0 : D) (h : AH) : mkT [d0] h = .ok (.tup [d0]) h := rfl
@[simp] theorem mkT_2 (d0 d1 : D) (h : AH) : mkT [d0, d1] h = .ok (.tup [d0, d1]) h := rfl
@[simp] theorem mkT_3 (d0 d1 d2 : D) (h : AH) : mkT [d0, d1, d2] h = .ok (.tup [d0, d1, d2]) h := rfl
@[simp] theorem mkT_4 (d0 d1 d2 d3 : D) (h : AH) : mkT [d0, d1, d2, d3] h = .ok (.tup [d0, d1, d2, d3]) h := rfl
@[simp] theorem mkT_5 (d0 d1 d2 d3 d4 : D) (h : AH) : mkT [d0, d1, d2, d3, d4] h = .ok (.tup [d0, d1, d2, d3, d4]) h := rfl
@[simp] theorem mkT_6 (d0 d1 d2 d3 d4 d5 : D) (h : AH) : mkT [d0, d1, d2, d3, d4, d5] h = .ok (.tup [d0, d1, d2, d3, d4, d5]) h := rfl
@[simp] theorem mkT_7 (d0 d1 d2 d3 d4 d5 d6 : D) (h : AH) : mkT [d0, d1, d2, d3, d4, d5, d6] h = .ok (.tup [d0, d1, d2, d3, d4, d5, d6]) h := rfl
@[simp] theorem mkT_8 (d0 d1 d2 d3 d4 d5 d6 d7 : D) (h : AH) : mkT [d0, d1, d2, d3, d4, d5, d6, d7] h = .ok (.tup [d0, d1, d2, d3, d4, d5, d6, d7]) h := rfl
@[simp] theorem mkT_9 (d0 d1 d2 d3 d4 d5 d6 d7 d8 : D) (h : AH) : mkT [d0, d1, d2, d3, d4, d5, d6, d7, d8] h = .ok (.tup [d0, d1, d2, d3, d4, d5, d6, d7, d8]) h := rfl
@[simp] theorem mkF_0 (h : AH) : mkF [] h = .ok (.lst []) h := rfl
@[simp] theorem mkF_1 (d0 : D) (h : AH) : mkF [d0] h = .ok (.lst [d0]) h := rfl
@[simp] theorem mkF_2 (d0 d1 : D) (h : AH) : mkF [d0, d1] h = .ok (.lst [d0, d1]) h := rfl
@[simp] theorem mkF_3 (d0 d1 d2 : D) (h : AH) : mkF [d0, d1, d2] h = .ok (.lst [d0, d1, d2]) h := rfl
@[simp] theorem mkF_4 (d0 d1 d2 d3 : D) (h : AH) : mkF [d0, d1, d2, d3] h = .ok (.lst [d0, d1, d2, d3]) h := rfl
@[simp] theorem mkF_5 (d0 d1 d2 d3 d4 : D) (h : AH) : mkF [d0, d1, d2, d3, d4] h = .ok (.lst [d0, d1, d2, d3, d4]) h := rfl
@[simp] theorem mkF_6 (d0 d1 d2 d3 d4 d5 : D) (h : AH) : mkF [d0, d1, d2, d3, d4, d5] h = .ok (.lst [d0, d1, d2, d3, d4, d5]) h := rfl
@[simp] theorem mkF_7 (d0 d1 d2 d3 d4 d5 d6 : D) (h : AH) : mkF [d0, d1, d2, d3, d4, d5, d6] h = .ok (.lst [d0, d1, d2, d3, d4, d5, d6]) h := rfl
@[simp] theorem mkF_8 (d0 d1 d2 d3 d4 d5 d6 d7 : D) (h : AH) : mkF [d0, d1, d2, d3, d4, d5, d6, d7] h = .ok (.lst [d0, d1, d2, d3, d4, d5, d6, d7]) h := rfl
@[simp] theorem mkF_9 (d0 d1 d2 d3 d4 d5 d6 d7 d8 : D) (h : AH) : mkF [d0, d1, d2, d3, d4, d5, d6, d7, d8] h = .ok (.lst [d0, d1, d2, d3, d4, d5, d6, d7, d8]) h := rfl
@[simp] theorem mkC_0 (h : AH) : mkC [] h = .ok (.ref h.length) (h ++ [.vals []]) := rfl
@[simp] theorem mkC_1 (d0 : D) (h : AH) : mkC [d0] h = .ok (.ref h.length) (h ++ [.vals [d0]]) := rfl
@[simp] theorem mkC_2 (d0 d1 : D) (h : AH) : mkC [d0, d1] h = .ok (.ref h.length) (h ++ [.vals [d0, d1]]) := rfl
@[simp] theorem mkC_3 (d0 d1 d2 : D) (h : AH) : mkC [d0, d1, d2] h = .ok (.ref h.length) (h ++ [.vals [d0, d1, d2]]) := rfl
theorem mkT_le {l : List D} (e : l.length ≤ 16777216) (h : AH) : mkT l h = .ok (.tup l) h := by unfold mkT; rw [decide_eq_true (show l.length ≤ LIM from e)]; rfl
theorem mkF_le {l : List D} (e : l.length ≤ 16777216) (h : AH) : mkF l h = .ok (.lst l) h := by unfold mkF; rw [decide_eq_true (show l.length ≤ LIM from e)]; rfl
theorem mkC_le {l : List D} (e : l.length ≤ 16777216) (h : AH) : mkC l h = .ok (.ref h.length) (h ++ [.vals l]) := by unfold mkC; rw [decide_eq_true (show l.length ≤ LIM from e)]; rfl
@[simp] theorem o_eqi (i j : Int) (h : AH) : dEq (.int i) (.int j) h = .ok (.bl (decide (i = j))) h := by
  show Res.ok (D.bl (i == j)) h = _
  congr 2
@[simp] theorem o_nei (i j : Int) (h : AH) : dNe (.int i) (.int j) h = .ok (.bl (!decide (i = j))) h := by
  show Res.ok (D.bl (!(i == j))) h = _
  congr 2
/-! ### equality of data -/
def deqvs : List D → List D → Bool
  | [], [] => true
  | d :: l, e :: r => deqv d e && deqvs l r
  | _, _ => false
theorem eqvAll_pys : ∀ l r : List D, PyData.eqvAll (D.pys l) (D.pys r) = deqvs l r
  | [], [] => by simp [D.pys, PyData.eqvAll, deqvs]
  | [], _ :: _ => by simp [D.pys, PyData.eqvAll, deqvs]
  | _ :: _, [] => by simp [D.pys, PyData.eqvAll, deqvs]
  | d :: l, e :: r => by
    show PyData.eqvAll (D.py d :: D.pys l) (D.py e :: D.pys r) = (deqv d e && deqvs l r)
    rw [PyData.eqvAll, eqvAll_pys l r]
    rfl
@[simp] theorem deqv_int (i j : Int) : deqv (.int i) (.int j) = decide (i = j) := by show (i == j) = _; rfl
@[simp] theorem deqv_str (x y : Str) : deqv (.str x) (.str y) = (x == y) := by simp [deqv, D.py, PyData.eqv]
@[simp] theorem deqv_non : deqv .non .non = true := by simp [deqv, D.py, PyData.eqv]
@[simp] theorem deqv_bl (a b : Bool) : deqv (.bl a) (.bl b) = (a == b) := by simp [deqv, D.py, PyData.eqv]
@[simp] theorem deqv_tup (l r : List D) : deqv (.tup l) (.tup r) = deqvs l r := by
  rw [← eqvAll_pys]; simp [deqv, D.py, PyData.eqv]
@[simp] theorem deqv_lst (l r : List D) : deqv (.lst l) (.lst r) = deqvs l r := by
  rw [← eqvAll_pys]; simp [deqv, D.py, PyData.eqv]
@[simp] theorem deqv_nt (l : List D) : deqv .non (.tup l) = false := by simp [deqv, D.py, PyData.eqv]
@[simp] theorem deqv_tn (l : List D) : deqv (.tup l) .non = false := by simp [deqv, D.py, PyData.eqv]
@[simp] theorem deqvs_nil : deqvs [] [] = true := rfl
@[simp] theorem deqvs_cons (d e : D) (l r : List D) : deqvs (d :: l) (e :: r) = (deqv d e && deqvs l r) := rfl
mutual
/-- plain data: equality is equality -/
def pln : D → Bool
  | .non => true
  | .int _ => true
  | .str _ => true
  | .tup l => plns l
  | .lst l => plns l
  | _ => false
def plns : List D → Bool
  | [] => true
  | d :: l => pln d && plns l
end
mutual
theorem deqv_pln : ∀ (d e : D), pln d = true → pln e = true → (deqv d e = true ↔ d = e)
  | .non, .non, _, _ => by simp
  | .non, .int _, _, _ => by simp [deqv, D.py, PyData.eqv]
  | .non, .str _, _, _ => by simp [deqv, D.py, PyData.eqv]
  | .non, .tup _, _, _ => by simp
  | .non, .lst _, _, _ => by simp [deqv, D.py, PyData.eqv]
  | .int _, .non, _, _ => by simp [deqv, D.py, PyData.eqv]
  | .int _, .int _, _, _ => by simp
  | .int _, .str _, _, _ => by simp [deqv, D.py, PyData.eqv]
  | .int _, .tup _, _, _ => by simp [deqv, D.py, PyData.eqv]
  | .int _, .lst _, _, _ => by simp [deqv, D.py, PyData.eqv]
  | .str _, .non, _, _ => by simp [deqv, D.py, PyData.eqv]
  | .str _, .int _, _, _ => by simp [deqv, D.py, PyData.eqv]
  | .str _, .str _, _, _ => by simp
  | .str _, .tup _, _, _ => by simp [deqv, D.py, PyData.eqv]
  | .str _, .lst _, _, _ => by simp [deqv, D.py, PyData.eqv]
  | .tup _, .non, _, _ => by simp
  | .tup _, .int _, _, _ => by simp [deqv, D.py, PyData.eqv]
  | .tup _, .str _, _, _ => by simp [deqv, D.py, PyData.eqv]
  | .tup l, .tup r, h, k => by rw [deqv_tup, deqvs_pln l r h k]; simp
  | .tup _, .lst _, _, _ => by simp [deqv, D.py, PyData.eqv]
  | .lst _, .non, _, _ => by simp [deqv, D.py, PyData.eqv]
  | .lst _, .int _, _, _ => by simp [deqv, D.py, PyData.eqv]
  | .lst _, .str _, _, _ => by simp [deqv, D.py, PyData.eqv]
  | .lst _, .tup _, _, _ => by simp [deqv, D.py, PyData.eqv]
  | .lst l, .lst r, h, k => by rw [deqv_lst, deqvs_pln l r h k]; simp
  | .bl _, _, h, _ => nomatch h
  | .ref _, _, h, _ => nomatch h
  | .obj _ _, _, h, _ => nomatch h
  | .fix _, _, h, _ => nomatch h
  | _, .bl _, _, h => nomatch h
  | _, .ref _, _, h => nomatch h
  | _, .obj _ _, _, h => nomatch h
  | _, .fix _, _, h => nomatch h
theorem deqvs_pln : ∀ (l r : List D), plns l = true → plns r = true → (deqvs l r = true ↔ l = r)
  | [], [], _, _ => by simp
  | [], _ :: _, _, _ => by simp [deqvs]
  | _ :: _, [], _, _ => by simp [deqvs]
  | d :: l, e :: r, h, k => by
    obtain ⟨h1, h2⟩ := Bool.and_eq_true_iff.mp (show (pln d && plns l) = true from h)
    obtain ⟨k1, k2⟩ := Bool.and_eq_true_iff.mp (show (pln e && plns r) = true from k)
    rw [deqvs_cons, Bool.and_eq_true_iff, deqv_pln d e h1 k1, deqvs_pln l r h2 k2]
    simp
end
end Sh
/-! Plain laws, part 1: defs' ends, loops, sizes of numbers. -/
namespace Sh
open PySem Cb

@[simp] theorem below_non (n : Nat) : below n .non = true := rfl
@[simp] theorem below_bl (n : Nat) (b : Bool) : below n (.bl b) = true := rfl
@[simp] theorem below_int (n : Nat) (i : Int) : below n (.int i) = true := rfl
@[simp] theorem below_str (n : Nat) (x : Str) : below n (.str x) = true := rfl
@[simp] theorem below_tup (n : Nat) (l : List D) : below n (.tup l) = belows n l := rfl
@[simp] theorem below_lst (n : Nat) (l : List D) : below n (.lst l) = belows n l := rfl
@[simp] theorem below_fix (n : Nat) (l : List Int) : below n (.fix l) = true := rfl
@[simp] theorem belows_nil (n : Nat) : belows n [] = true := rfl
@[simp] theorem belows_cons (n : Nat) (d : D) (l : List D) : belows n (d :: l) = (below n d && belows n l) := rfl
theorem belows_iff {n : Nat} : ∀ {l : List D}, belows n l = true ↔ ∀ d ∈ l, below n d = true
  | [] => by simp
  | d :: l => by simp [belows_iff (l := l)]
theorem belows_ints {n : Nat} (l : List Int) : belows n (l.map D.int) = true := belows_iff.mpr fun d hd => by
  obtain ⟨i, _, rfl⟩ := List.mem_map.mp hd
  rfl
theorem belows_append {n : Nat} {l r : List D} : belows n (l ++ r) = (belows n l && belows n r) := by
  induction l with
  | nil => simp
  | cons d l ih => simp [ih, Bool.and_assoc]
theorem gcOk_refl (h : AH) : gcOk h h := ⟨Nat.le_refl _, fun i c _ e => .inl e⟩
theorem gcOk_app {h h' : AH} (g : gcOk h h') (l : AH) : gcOk h (h' ++ l) := ⟨by rw [List.length_append]; have := g.1; omega, fun i c hi e => by
  rw [List.getElem?_append_left (by have := g.1; omega)] at e
  exact g.2 i c hi e⟩
theorem gcOk_set {h h' : AH} {k : Nat} {c : Cell} (g : gcOk h h') (b : k < h.length → belowC h.length c = true) : gcOk h (h'.set k c) := ⟨by rw [List.length_set]; exact g.1, fun i d hi e => by
  by_cases hk : k = i
  · subst hk
    rw [List.getElem?_set_self (by have := g.1; omega)] at e
    cases e
    exact .inr (b hi)
  · rw [List.getElem?_set_ne hk] at e
    exact g.2 i d hi e⟩
theorem frz_below {f : Nat} {h : AH} {n : Nat} {ks : List Nat} {d : D} (b : below n d = true) : frz f h n ks d = some d := by
  cases f <;> (unfold frz; rw [if_pos b])
/-- a def that lays nothing new -/
theorem gc_same {h : AH} {d : D} (b : below h.length d = true) : gcR sel0 h (.ok d h) = .ok d h := by
  unfold gcR
  have e : gcOk h h ∧ (∀ k ∈ sel0 h.length h d, h.length ≤ k ∧ k < h.length) ∧ (sel0 h.length h d).Nodup := ⟨gcOk_refl h, fun k hk => absurd hk (by simp [sel0]), List.nodup_nil⟩
  simp only [if_pos e]
  rw [frz_below b]
  simp [sel0, mapO]
/-- a def whose new things go -/
theorem gc_drop {h h' : AH} {d d' : D} (g : gcOk h h') (e : frz 6 h' h.length [] d = some d') : gcR sel0 h (.ok d h') = .ok d' (h'.take h.length) := by
  unfold gcR
  have e0 : gcOk h h' ∧ (∀ k ∈ sel0 h.length h' d, h.length ≤ k ∧ k < h'.length) ∧ (sel0 h.length h' d).Nodup := ⟨g, fun k hk => absurd hk (by simp [sel0]), List.nodup_nil⟩
  simp only [if_pos e0]
  have e : frz 6 h' h.length (sel0 h.length h' d) d = some d' := e
  rw [e]
  simp [sel0, mapO]
theorem gc_exc {h h' : AH} {c : Nat} {d : D} (g : gcOk h h') (b : below h.length d = true) (sl : Sel) : gcR sl h (.exc c d h') = .exc c d (h'.take h.length) := by
  unfold gcR
  simp only [if_pos (show gcOk h h' ∧ below h.length d = true from ⟨g, b⟩)]
theorem f_ret {n : Nat} {fb : En → AH → RS} {ds : List D} {h : AH} {d : D} (e : fb (startE n ds) h = .ret d h) (b : below h.length d = true) : fnm sel0 n fb ds h = .ok d h := by
  unfold fnm
  rw [e]
  exact gc_same b
theorem f_nx {n : Nat} {fb : En → AH → RS} {ds : List D} {h : AH} {en : En} (e : fb (startE n ds) h = .nx en h) : fnm sel0 n fb ds h = .ok .non h := by
  unfold fnm
  rw [e]
  exact gc_same rfl
theorem f_exc {n : Nat} {fb : En → AH → RS} {ds : List D} {h : AH} {c : Nat} {d : D} {en : En} (sl : Sel) (e : fb (startE n ds) h = .exc c d en h) (b : below h.length d = true) : fnm sl n fb ds h = .exc c d h := by
  unfold fnm
  rw [e]
  show gcR sl h (.exc c d h) = _
  rw [gc_exc (gcOk_refl h) b]
  simp

/-! ### loops -/
@[simp] theorem okS_nil (h : AH) : okS [] h = true := rfl
@[simp] theorem forL_nil (g : D → En → Option En) (b : En → AH → RS) (en : En) (h : AH) : forL [] g b [] en h = .nx en h := rfl
theorem forL_cons (g : D → En → Option En) (b : En → AH → RS) (d : D) (l : List D) (en en' : En) (h : AH) (e : g d en = some en') : forL [] g b (d :: l) en h = (match b en' h with
      | .nx en2 h2 => forL [] g b l en2 h2
      | .cont en2 h2 => forL [] g b l en2 h2
      | .brk en2 h2 => .nx en2 h2
      | r => r) := by
  conv => lhs; unfold forL
  simp only [okS_nil, cond_true, e]
  all_goals (cases b en' h <;> rfl)
/-- a loop over what never changes: P by the items that are done -/
theorem forL_inv {g : D → En → Option En} {b : En → AH → RS} (P : Nat → En → AH → Prop) : ∀ (l : List D) (k : Nat) (en : En) (h : AH), P k en h →
    (∀ i (hi : i < l.length) en h, P (k + i) en h → ∃ en1, g l[i] en = some en1 ∧ ∃ en2 h2, (b en1 h = .nx en2 h2 ∨ b en1 h = .cont en2 h2) ∧ P (k + i + 1) en2 h2) →
    ∃ en' h', forL [] g b l en h = .nx en' h' ∧ P (k + l.length) en' h'
  | [], k, en, h, p, _ => ⟨en, h, rfl, by simpa using p⟩
  | d :: l, k, en, h, p, s => by
    obtain ⟨en1, e1, en2, h2, e2, p2⟩ := s 0 (by simp) en h (by simpa using p)
    have ih := forL_inv P l (k + 1) en2 h2 (by simpa using p2) fun i hi en h q => by
      obtain ⟨a, ea, b', hb, eb, q'⟩ := s (i + 1) (by simp; omega) en h (by rw [show k + (i + 1) = k + 1 + i by omega]; exact q)
      exact ⟨a, by simpa using ea, b', hb, eb, by rw [show k + 1 + i + 1 = k + (i + 1) + 1 by omega]; exact q'⟩
    obtain ⟨en', h', e', p'⟩ := ih
    refine ⟨en', h', ?_, by rw [List.length_cons, show k + (l.length + 1) = k + 1 + l.length by omega]; exact p'⟩
    rw [forL_cons g b d l en en1 h (by simpa using e1)]
    rcases e2 with e2 | e2 <;> (rw [e2]; exact e')
@[simp] theorem rng_len (lo c : Int) (n : Nat) : (rngI lo c n).length = n := by simp [rngI]
theorem rng_get {lo c : Int} {n i : Nat} (h : i < (rngI lo c n).length) : (rngI lo c n)[i] = .int (lo + (i : Int) * c) := by simp [rngI]

/-! ### sizes -/
def Sz (n : Nat) (i : Int) : Prop := i.natAbs < 2 ^ n
theorem Sz.mono {m n : Nat} {i : Int} (h : Sz m i) (l : m ≤ n) : Sz n i := Nat.lt_of_lt_of_le h (Nat.pow_le_pow_right (by omega) l)
theorem Sz.neg {n : Nat} {i : Int} (h : Sz n i) : Sz n (-i) := by unfold Sz at *; rw [Int.natAbs_neg]; exact h
theorem Sz.mul {m n : Nat} {i j : Int} (h : Sz m i) (k : Sz n j) : Sz (m + n) (i * j) := by
  unfold Sz at *
  rw [Int.natAbs_mul, Nat.pow_add]
  exact Nat.mul_lt_mul_of_lt_of_le h (Nat.le_of_lt k) (Nat.two_pow_pos n)
theorem Sz.add {n : Nat} {i j : Int} (h : Sz n i) (k : Sz n j) : Sz (n + 1) (i + j) := by
  unfold Sz at *
  rw [Nat.pow_succ]
  have := Int.natAbs_add_le i j
  omega
theorem Sz.sub {n : Nat} {i j : Int} (h : Sz n i) (k : Sz n j) : Sz (n + 1) (i - j) := by
  rw [Int.sub_eq_add_neg]
  exact h.add k.neg
theorem sz_of {n : Nat} {i : Int} (h : i.natAbs < 2 ^ n) : Sz n i := h
theorem sz_nat {n : Nat} {i : Nat} (h : i < 2 ^ n) : Sz n (i : Int) := by unfold Sz; simpa using h
theorem bits_sz {n : Nat} {i : Int} (h : Sz n i) : bits i ≤ n := by
  show Builtin.Int.intBits i ≤ n
  unfold Builtin.Int.intBits
  by_cases h0 : i = 0
  · subst h0; simp
  · rw [if_neg (by simpa using h0)]
    have := (Nat.log2_lt (by omega : i.natAbs ≠ 0)).mpr h
    omega
theorem sz_bits {n : Nat} {i : Int} (h : bits i ≤ n) : Sz n i := by
  have h : Builtin.Int.intBits i ≤ n := h
  unfold Builtin.Int.intBits at h
  by_cases h0 : i = 0
  · subst h0; exact Nat.two_pow_pos n
  · rw [if_neg (by simpa using h0)] at h
    exact (Nat.log2_lt (by omega : i.natAbs ≠ 0)).mp (by omega)
theorem o_mul {m n : Nat} {i j : Int} (hi : Sz m i) (hj : Sz n j) (h : AH) (l : m + n ≤ 134217728) : dMul (.int i) (.int j) h = .ok (.int (i * j)) h := by
  have e : cMul i j = true := by
    unfold cMul
    rw [decide_eq_true_iff]
    have := bits_sz hi
    have := bits_sz hj
    omega
  show (bif cMul i j then _ else _) = _
  rw [e]; rfl
theorem o_div {n : Nat} {i j : Int} (hj : Sz n j) (h0 : 0 < j) (h : AH) (l : n ≤ 9000) : dFdiv (.int i) (.int j) h = .ok (.int (i / j)) h := by
  have e : cDiv i j = true := by
    unfold cDiv
    rw [Bool.and_eq_true_iff, decide_eq_true_iff, decide_eq_true_iff]
    refine ⟨h0, ?_⟩
    have := (Nat.log2_lt (by omega : j.natAbs ≠ 0)).mpr hj
    omega
  show (bif cDiv i j then _ else _) = _
  rw [e]; rfl
theorem o_mod {i j : Int} (h0 : 0 < j) (h : AH) : dMod (.int i) (.int j) h = .ok (.int (i % j)) h := by
  have e : cMod i j = true := by unfold cMod; exact decide_eq_true h0
  show (bif cMod i j then _ else _) = _
  rw [e]; rfl
theorem o_shr {i : Int} {k : Nat} (h : AH) : dShr (.int i) (.int (k : Int)) h = .ok (.int (i / 2 ^ k)) h := by
  have e : cShr i k = true := by unfold cShr; exact decide_eq_true (Int.natCast_nonneg k)
  show (bif cShr i k then Res.ok (D.int (i / 2 ^ (k : Int).toNat)) h else .stuck) = _
  rw [e]; rfl
theorem o_shl {i : Int} {k : Nat} (hk : k ≤ 1000000) (hi : i.natAbs < 2 ^ 64) (h : AH) : dShl (.int i) (.int (k : Int)) h = .ok (.int (i * 2 ^ k)) h := by
  have e : cPow i k = true := by
    unfold cPow
    rw [Bool.and_eq_true_iff, Bool.and_eq_true_iff, decide_eq_true_iff, decide_eq_true_iff, decide_eq_true_iff]
    exact ⟨Int.natCast_nonneg k, by omega, hi⟩
  show (bif cPow i k then _ else _) = _
  rw [e]; rfl
theorem o_pow {i : Int} {k : Nat} (hk : k ≤ 1000000) (hi : i.natAbs < 2 ^ 64) (h : AH) : dPow (.int i) (.int (k : Int)) h = .ok (.int (i ^ k)) h := by
  have e : cPow i k = true := by
    unfold cPow
    rw [Bool.and_eq_true_iff, Bool.and_eq_true_iff, decide_eq_true_iff, decide_eq_true_iff, decide_eq_true_iff]
    exact ⟨Int.natCast_nonneg k, by omega, hi⟩
  show (bif cPow i k then _ else _) = _
  rw [e]; rfl
theorem rng_q1 {n : Nat} (l : n < 4611686018427387904) : decide ((n : Int) < 4611686018427387904) = true := decide_eq_true (by omega)
theorem rng_q2 {n : Nat} : decide (-4611686018427387904 ≤ (n : Int)) = true := decide_eq_true (by omega)
theorem rng_q3 {n : Nat} {h : AH} (q : (decide ((n : Int) < 4611686018427387904) && decide (-4611686018427387904 ≤ (n : Int))) = true) : ((Res.ok (D.int (n : Int)) h).bind fun d h1 => match d with
  | .int j => bif decide (j < 4611686018427387904) && decide (-4611686018427387904 ≤ j) then .ok (⟨rngI 0 1 j.toNat, []⟩ : Wk) h1 else .stuck
  | _ => .stuck) = .ok ⟨rngI 0 1 n, []⟩ h := by
  rw [bind_ok]
  show (bif _ then _ else _) = _
  rw [q]
  rw [Int.toNat_natCast]
  rfl
/-- what is walked: range(n) -/
theorem w_rng1 {fa : En → AH → Res D} {en : En} {h h1 : AH} {n : Nat} (e : fa en h = .ok (.int (n : Int)) h1) (l : n < 4611686018427387904) : wkR1 fa en h = .ok ⟨rngI 0 1 n, []⟩ h1 := by
  have q : (decide ((n : Int) < 4611686018427387904) && decide (-4611686018427387904 ≤ (n : Int))) = true := by rw [rng_q1 l, rng_q2]; rfl
  have r := rng_q3 (h := h1) q
  rw [← e] at r
  exact r
end Sh
/-! Plain laws, part 2: whole numbers, the law's gcd, fractions. -/
namespace Sh
open PySem Cb

/-! ### the law's gcd -/
/-- Euclid's steps -/
def eu : Nat → Nat → Nat → Nat × Nat
  | 0, a, b => (a, b)
  | n + 1, a, b => if 0 < b then eu n b (a % b) else eu n a b
theorem eu_succ (n a b : Nat) : eu (n + 1) a b = if 0 < b then eu n b (a % b) else eu n a b := rfl
theorem eu_zero : ∀ (n a : Nat), eu n a 0 = (a, 0)
  | 0, a => rfl
  | n + 1, a => by unfold eu; rw [if_neg (by omega)]; exact eu_zero n a
theorem eu_gcd : ∀ (n a b : Nat), Nat.gcd (eu n a b).1 (eu n a b).2 = Nat.gcd a b
  | 0, a, b => rfl
  | n + 1, a, b => by
    unfold eu
    split
    · rw [eu_gcd n b (a % b), Nat.gcd_comm b, ← Nat.gcd_rec, Nat.gcd_comm]
    · exact eu_gcd n a b
theorem eu_end : ∀ (n a b : Nat), b < 2 ^ n → (eu (2 * n + 1) a b).2 = 0
  | 0, a, b, h => by
    have : b = 0 := by simpa using h
    subst this
    rw [eu_zero]
  | n + 1, a, b, h => by
    rw [show 2 * (n + 1) + 1 = (2 * n + 1) + 1 + 1 by omega]
    by_cases h0 : 0 < b
    · conv => lhs; unfold eu
      rw [if_pos h0]
      by_cases h1 : 0 < a % b
      · conv => lhs; unfold eu
        rw [if_pos h1]
        apply eu_end n
        have h2 : b % (a % b) < a % b := Nat.mod_lt _ h1
        have h3 : a % b < b := Nat.mod_lt _ h0
        have h4 : b % (a % b) + (a % b) ≤ b := by
          have := Nat.div_add_mod b (a % b)
          have h5 : 1 ≤ b / (a % b) := (Nat.one_le_div_iff h1).mpr (Nat.le_of_lt h3)
          have h6 : (a % b) * 1 ≤ (a % b) * (b / (a % b)) := Nat.mul_le_mul_left _ h5
          omega
        rw [Nat.pow_succ] at h
        omega
      · have h2 : a % b = 0 := by omega
        rw [h2, eu_zero]
    · have h2 : b = 0 := by omega
      subst h2
      rw [eu_zero]
theorem eu_all {n a b : Nat} (h : b < 2 ^ n) (m : Nat) (hm : 2 * n + 1 ≤ m) : eu m a b = (Nat.gcd a b, 0) := by
  have add : ∀ (k j a b : Nat), eu (k + j) a b = eu j (eu k a b).1 (eu k a b).2 := by
    intro k
    induction k with
    | zero => intro j a b; rw [Nat.zero_add]; rfl
    | succ k ih =>
      intro j a b
      rw [show k + 1 + j = (k + j) + 1 by omega, eu_succ, eu_succ]
      split
      · exact ih j b (a % b)
      · exact ih j a b
  obtain ⟨j, rfl⟩ : ∃ j, m = (2 * n + 1) + j := ⟨m - (2 * n + 1), by omega⟩
  rw [add]
  have e2 := eu_end n a b h
  have e1 := eu_gcd (2 * n + 1) a b
  rw [e2, Nat.gcd_zero_right] at e1
  rw [e2, e1, eu_zero]
theorem eu_step : ∀ (k a b : Nat), eu (k + 1) a b = if 0 < (eu k a b).2 then ((eu k a b).2, (eu k a b).1 % (eu k a b).2) else eu k a b := by
  intro k
  induction k with
  | zero => intro a b; rfl
  | succ k ih =>
    intro a b
    by_cases hb : 0 < b
    · have e : eu (k + 1) a b = eu k b (a % b) := by rw [eu_succ, if_pos hb]
      rw [eu_succ (k + 1), if_pos hb, e]; exact ih b (a % b)
    · have e : eu (k + 1) a b = eu k a b := by rw [eu_succ, if_neg hb]
      have z := ih a b
      rw [eu_succ (k + 1), if_neg hb, e]
      rw [e] at z
      exact z
abbrev bgcd : En → AH → RS := sIf (tcm dGt (var 1) (cI 0)) (seq (sSet 3 (bin dMod (dsp bInt (acons (var 0) anil)) (var 1))) (seq (sSet 0 (var 1)) (sSet 1 (var 3)))) skip
theorem bgcd_pos {a b : Nat} (hb : 0 < b) (x : D) (y : Option D) (h : AH) : bgcd [some (.int a), some (.int b), some x, y] h = .nx [some (.int b), some (.int ((a % b : Nat) : Int)), some x, some (.int ((a % b : Nat) : Int))] h := by
  have hb' : (0 : Int) < (b : Int) := by omega
  simp [hb, o_mod hb']
theorem bgcd_neg {a b : Nat} (hb : ¬ 0 < b) (x : D) (y : Option D) (h : AH) : bgcd [some (.int a), some (.int b), some x, y] h = .nx [some (.int a), some (.int b), some x, y] h := by
  have hb' : b = 0 := by omega
  subst hb'
  simp
theorem gcd_loop (i j M : Nat) (h : AH) : ∃ x y, forL [] (gN 2) bgcd (rngI 0 1 M) [some (.int i), some (.int j), none, none] h = .nx [some (.int ((eu M i j).1 : Nat)), some (.int ((eu M i j).2 : Nat)), x, y] h := by
  have loop := forL_inv (g := gN 2) (b := bgcd) (fun k en h' => h' = h ∧ ∃ x y, en = [some (.int ((eu k i j).1 : Nat)), some (.int ((eu k i j).2 : Nat)), x, y]) (rngI 0 1 M) 0 [some (.int i), some (.int j), none, none] h ⟨rfl, none, none, rfl⟩ (by
      rintro k hk en h' ⟨rfl, x, y, rfl⟩
      rw [Nat.zero_add, eu_step k i j]
      generalize eu k i j = p
      obtain ⟨a, b⟩ := p
      refine ⟨_, rfl, ?_⟩
      by_cases hb : 0 < b
      · exact ⟨_, _, .inl (bgcd_pos hb _ y h'), rfl, _, _, by rw [if_pos hb]⟩
      · exact ⟨_, _, .inl (bgcd_neg hb _ y h'), rfl, _, _, by rw [if_neg hb]⟩)
  obtain ⟨en', h', e', rfl, x, y, rfl⟩ := loop
  rw [rng_len, Nat.zero_add] at e'
  exact ⟨x, y, e'⟩
theorem abs_nat (k : Int) : (if k < 0 then -k else k) = (k.natAbs : Int) := by split <;> omega
theorem gcd_eq {n : Nat} (hn : n ≤ 100000) {i j : Int} (hi : Sz n i) (hj : Sz n j) (h : AH) : Fx_law_gcd [.int i, .int j] h = .ok (.int ((Nat.gcd i.natAbs j.natAbs : Nat) : Int)) h := by
  have b1 : (bits (i.natAbs : Int)) ≤ n := bits_sz (by unfold Sz at *; simpa using hi)
  have b2 : (bits (j.natAbs : Int)) ≤ n := bits_sz (by unfold Sz at *; simpa using hj)
  obtain ⟨M, hM, hM1, hM2⟩ : ∃ M : Nat, (if ((bits (j.natAbs : Int) : Nat) : Int) > ((bits (i.natAbs : Int) : Nat) : Int) then ((bits (j.natAbs : Int) : Nat) : Int) else ((bits (i.natAbs : Int) : Nat) : Int)) = (M : Int) ∧ M ≤ n ∧ bits (j.natAbs : Int) ≤ M := by
    by_cases c : ((bits (j.natAbs : Int) : Nat) : Int) > ((bits (i.natAbs : Int) : Nat) : Int)
    · exact ⟨bits (j.natAbs : Int), by rw [if_pos c], b2, Nat.le_refl _⟩
    · exact ⟨bits (i.natAbs : Int), by rw [if_neg c], b1, by omega⟩
  have mm : Sz 40 (M : Int) := sz_nat (by have : (100000 : Nat) < 2 ^ 40 := by decide
                                          omega)
  have two : Sz 2 (2 : Int) := by unfold Sz; decide
  have hj2 : j.natAbs < 2 ^ M := by
    have : Sz M (j.natAbs : Int) := sz_bits hM2
    simpa [Sz] using this
  obtain ⟨x, y, lp⟩ := gcd_loop i.natAbs j.natAbs (2 * M + 4) h
  rw [eu_all hj2 (2 * M + 4) (by omega)] at lp
  refine f_ret (n := 4) (fb := mx_law_gcd) ?_ rfl
  have hw : wkR1 (bin dAdd (bin dMul (cI 2) (dsp bMax2 (acons (una dBits (var 0)) (acons (una dBits (var 1)) anil)))) (cI 4)) [some (.int (i.natAbs : Int)), some (.int (j.natAbs : Int)), none, none] h = .ok ⟨rngI 0 1 (2 * M + 4), []⟩ h := by
    apply w_rng1
    · simp only [a_bin, a_dsp, a_acons, a_una, var_z, var_s, bind_ok, o_bits, o_max2, hM, o_mul two mm h (by omega), o_add]
      rw [show ((2 * M + 4 : Nat) : Int) = 2 * (M : Int) + 4 by omega]
    · omega
  unfold mx_law_gcd
  simp only [a_seq, a_set, a_dsp, a_acons, startE, List.map_cons, List.map_nil, List.length_cons, List.length_nil, List.cons_append, List.nil_append, List.replicate, Nat.reduceAdd, Nat.reduceSub, var_z, var_s, bind_ok, o_abs, abs_nat, bindS_ok, seq_nx, List.set_cons_zero, List.set_cons_succ, a_for, a_ret]
  rw [hw]
  simp only [bindS_ok]
  rw [lp]
  simp
end Sh
/-! Plain laws, part 3: fractions. -/
namespace Sh
open PySem Cb
open scoped Rat

def fr (q : Rat) : D := .tup [.int q.num, .int (q.den : Nat)]
def Qz (n : Nat) (q : Rat) : Prop := Sz n q.num ∧ Sz n (q.den : Int)
theorem Qz.mono {m n : Nat} {q : Rat} (h : Qz m q) (l : m ≤ n) : Qz n q := ⟨h.1.mono l, h.2.mono l⟩
@[simp] theorem below_fr (n : Nat) (q : Rat) : below n (fr q) = true := rfl
theorem sz_num {n : Nat} {t b : Int} (ht : Sz n t) : Sz n (t /. b).num := by
  unfold Sz at *
  rw [Rat.num_divInt]
  by_cases hb : b = 0
  · subst hb; simp; exact Nat.two_pow_pos n
  · have h1 : (b.sign * t).natAbs = t.natAbs := by
      rw [Int.natAbs_mul, Int.natAbs_sign_of_ne_zero hb, Nat.one_mul]
    have h2 : ((b.gcd t : Nat) : Int) ∣ b.sign * t := by
      exact Int.dvd_trans (Int.gcd_dvd_right b t) (Int.dvd_mul_left _ _)
    obtain ⟨k, hk⟩ := h2
    rw [hk]
    have h0 : ((b.gcd t : Nat) : Int) ≠ 0 := by
      have : b.gcd t ≠ 0 := fun z => hb (Int.gcd_eq_zero_iff.mp z).1
      omega
    rw [Int.mul_ediv_cancel_left _ h0]
    have h3 : t.natAbs = b.gcd t * k.natAbs := by rw [← h1, hk, Int.natAbs_mul]; simp
    have h4 : 1 ≤ b.gcd t := by omega
    have : k.natAbs ≤ b.gcd t * k.natAbs := Nat.le_mul_of_pos_left _ h4
    omega
theorem sz_den {n : Nat} {t b : Int} (hb : Sz n b) (h1 : 1 ≤ n) : Sz n ((t /. b).den : Int) := by
  unfold Sz at *
  rw [Rat.den_divInt]
  split
  · have : (2 : Nat) ^ 1 ≤ 2 ^ n := Nat.pow_le_pow_right (by omega) h1
    simp; omega
  · have := Nat.div_le_self b.natAbs (b.gcd t)
    rw [Int.natAbs_natCast]
    omega
theorem Qz.div {n : Nat} {t b : Int} (ht : Sz n t) (hb : Sz n b) (h1 : 1 ≤ n) : Qz n (t /. b) := ⟨sz_num ht, sz_den hb h1⟩
theorem num_pos {t b : Int} (hb : 0 < b) : (t /. b).num = t / ((Nat.gcd t.natAbs b.natAbs : Nat) : Int) := by
  rw [Rat.num_divInt, Int.sign_eq_one_of_pos hb, Int.one_mul, Int.gcd_comm]
  rfl
theorem den_pos {t b : Int} (hb : 0 < b) : (((t /. b).den : Nat) : Int) = b / ((Nat.gcd t.natAbs b.natAbs : Nat) : Int) := by
  rw [Rat.den_divInt, if_neg (by omega), Int.gcd_comm]
  show ((b.natAbs / Nat.gcd t.natAbs b.natAbs : Nat) : Int) = _
  rw [Int.natCast_ediv, Int.natAbs_of_nonneg (by omega)]
theorem neg_divInt {t b : Int} : (-t) /. (-b) = t /. b := by
  by_cases hb : b = 0
  · subst hb; simp
  · rw [Rat.divInt_eq_divInt_iff (by omega) hb]
    rw [Int.neg_mul, Int.mul_neg]
theorem gcd_sz {n : Nat} {t b : Int} (hb : Sz n b) (h0 : b ≠ 0) : Sz n ((Nat.gcd t.natAbs b.natAbs : Nat) : Int) := by
  unfold Sz at *
  have := Nat.gcd_le_right t.natAbs (by omega : 0 < b.natAbs)
  simp
  omega
theorem gcd_pos' {t b : Int} (h0 : b ≠ 0) : (0 : Int) < ((Nat.gcd t.natAbs b.natAbs : Nat) : Int) := by
  have := Nat.gcd_pos_of_pos_right t.natAbs (by omega : 0 < b.natAbs)
  omega
theorem max1 {g : Int} (h : 0 < g) : (if g > 1 then g else 1) = g := by split <;> omega
theorem low_tail {n : Nat} (hn : n ≤ 9000) {t b : Int} (ht : Sz n t) (hb : Sz n b) (h0 : 0 < b) (h : AH) : (seq (sSet 2 (dsp bMax2 (acons (cI 1) (acons (cal [] 2 Fx_law_gcd (acons (var 0) (acons (var 1) anil))) anil))))
    (sRet (dsp mkT (acons (bin dFdiv (var 0) (var 2)) (acons (bin dFdiv (var 1) (var 2)) anil))))) [some (.int t), some (.int b), none] h = .ret (fr (t /. b)) h := by
  have g := gcd_eq (by omega : n ≤ 100000) ht hb h
  have gz := gcd_sz (t := t) hb (by omega)
  have gp := gcd_pos' (t := t) (b := b) (by omega)
  unfold fr
  rw [num_pos h0, den_pos h0]
  simp [g, max1 gp, o_div gz gp h hn]
theorem low_eq {n : Nat} (hn : n ≤ 9000) {t b : Int} (ht : Sz n t) (hb : Sz n b) (h0 : b ≠ 0) (h : AH) : Fx_law_low [.int t, .int b] h = .ok (fr (t /. b)) h := by
  refine f_ret (n := 3) (fb := mx_law_low) ?_ rfl
  unfold mx_law_low
  by_cases hs : b < 0
  · rw [← neg_divInt, ← low_tail hn ht.neg hb.neg (by omega) h]
    simp [startE, List.replicate, hs]
  · rw [← low_tail hn ht hb (by omega) h]
    simp [startE, List.replicate, hs]
theorem ix_nat {x : D} {l : List D} {i : Nat} {d : D} (h : AH) (e : asS h x = some l) (g : l[i]? = some d) : ixD x (.int (i : Nat)) h = .ok d h := by
  have hi : i < l.length := (List.getElem?_eq_some_iff.mp g).1
  have a : L2.atI l (i : Int) = some d := by
    unfold L2.atI L2.ixN
    rw [if_pos (by omega), if_pos (by omega)]
    simpa using g
  show (match asS h x with
    | some l => (match L2.atI l (i : Int) with
      | some d => Res.ok d h
      | none => .stuck)
    | none => .stuck) = _
  rw [e]
  simp only [a]
@[simp] theorem ix_fr0 (q : Rat) (h : AH) : ixD (fr q) (.int 0) h = .ok (.int q.num) h := rfl
@[simp] theorem ix_fr1 (q : Rat) (h : AH) : ixD (fr q) (.int 1) h = .ok (.int (q.den : Nat)) h := rfl
theorem den_ne (q : Rat) : (q.den : Int) ≠ 0 := by have := q.den_nz; omega
theorem sum_eq {n : Nat} (hn : n ≤ 4000) {p q : Rat} (hp : Qz n p) (hq : Qz n q) (h : AH) : Fx_law_sum [fr p, fr q] h = .ok (fr (p + q)) h := by
  refine f_ret (n := 2) (fb := mx_law_sum) ?_ rfl
  have z1 := (hp.1.mul hq.2).add (hq.1.mul hp.2)
  have z2 := (hp.2.mul hq.2).mono (Nat.le_succ (n + n))
  have e : (p.num * (q.den : Int) + q.num * (p.den : Int)) /. ((p.den : Int) * (q.den : Int)) = p + q := by
    rw [← Rat.divInt_add_divInt _ _ (den_ne p) (den_ne q), Rat.num_divInt_den, Rat.num_divInt_den]
  have l := low_eq (by omega : n + n + 1 ≤ 9000) z1 z2 (Int.mul_ne_zero (den_ne p) (den_ne q)) h
  rw [e] at l
  unfold mx_law_sum
  simp [startE, o_mul hp.1 hq.2 h (by omega), o_mul hq.1 hp.2 h (by omega), o_mul hp.2 hq.2 h (by omega), l]
theorem mul_eq {n : Nat} (hn : n ≤ 4000) {p q : Rat} (hp : Qz n p) (hq : Qz n q) (h : AH) : Fx_law_mul [fr p, fr q] h = .ok (fr (p * q)) h := by
  refine f_ret (n := 2) (fb := mx_law_mul) ?_ rfl
  have z1 := hp.1.mul hq.1
  have z2 := hp.2.mul hq.2
  have e : (p.num * q.num) /. ((p.den : Int) * (q.den : Int)) = p * q := by
    rw [← Rat.divInt_mul_divInt, Rat.num_divInt_den, Rat.num_divInt_den]
  have l := low_eq (by omega : n + n ≤ 9000) z1 z2 (Int.mul_ne_zero (den_ne p) (den_ne q)) h
  rw [e] at l
  unfold mx_law_mul
  simp [startE, o_mul hp.1 hq.1 h (by omega), o_mul hp.2 hq.2 h (by omega), l]
theorem under_eq {n : Nat} (hn : n ≤ 4000) {p q : Rat} (hp : Qz n p) (hq : Qz n q) (h : AH) : Fx_law_under [fr p, fr q] h = .ok (.bl (decide (p < q))) h := by
  refine f_ret (n := 2) (fb := mx_law_under) ?_ rfl
  have e : decide (p < q) = decide (p.num * (q.den : Int) < q.num * (p.den : Int)) := by rw [decide_eq_decide]; exact Rat.lt_iff p q
  rw [e]
  unfold mx_law_under
  simp [startE, o_mul hp.1 hq.2 h (by omega), o_mul hq.1 hp.2 h (by omega)]
/-! ### sizes of sums and products -/
theorem Qz.add {n : Nat} {p q : Rat} (hp : Qz n p) (hq : Qz n q) : Qz (n + n + 1) (p + q) := by
  have e : (p.num * (q.den : Int) + q.num * (p.den : Int)) /. ((p.den : Int) * (q.den : Int)) = p + q := by
    rw [← Rat.divInt_add_divInt _ _ (den_ne p) (den_ne q), Rat.num_divInt_den, Rat.num_divInt_den]
  rw [← e]
  exact Qz.div ((hp.1.mul hq.2).add (hq.1.mul hp.2)) ((hp.2.mul hq.2).mono (Nat.le_succ (n + n))) (by omega)
theorem Qz.mul {n : Nat} {p q : Rat} (hp : Qz n p) (hq : Qz n q) (h1 : 1 ≤ n) : Qz (n + n) (p * q) := by
  have e : (p.num * q.num) /. ((p.den : Int) * (q.den : Int)) = p * q := by
    rw [← Rat.divInt_mul_divInt, Rat.num_divInt_den, Rat.num_divInt_den]
  rw [← e]
  exact Qz.div (hp.1.mul hq.1) (hp.2.mul hq.2) (by omega)

/-! ### the program's fractions -/
theorem ratios_eq {n : Nat} (hn : n ≤ 9000) {t b : Int} (ht : Sz n t) (hb : Sz n b) (h0 : 0 < b) (h : AH) : Fx_ratios_lowest [.int t, .int b] h = .ok (fr (t /. b)) h := by
  refine f_ret (n := 3) (fb := mx_ratios_lowest) ?_ rfl
  have gz := gcd_sz (t := t) hb (by omega)
  have gp := gcd_pos' (t := t) (b := b) (by omega)
  unfold fr mx_ratios_lowest
  rw [num_pos h0, den_pos h0]
  have hs : ¬ b < 0 := by omega
  simp [startE, List.replicate, hs, o_div gz gp h hn]
/-- a whole number, never a bool -/
def isW : D → Bool
  | .int _ => true
  | _ => false
@[simp] theorem isW_int (i : Int) : isW (.int i) = true := rfl
@[simp] theorem isW_non : isW .non = false := rfl
@[simp] theorem isW_bl (b : Bool) : isW (.bl b) = false := rfl
@[simp] theorem isW_str (x : Str) : isW (.str x) = false := rfl
@[simp] theorem isW_tup (l : List D) : isW (.tup l) = false := rfl
@[simp] theorem isW_lst (l : List D) : isW (.lst l) = false := rfl
def tame (h : AH) (d : D) : Prop := ∃ t, tyD h d = some t
theorem ty_whole {d : D} {h : AH} {t : Ty} (e : tyD h d = some t) : (isTy t .int = true → isTy t .bl = false → isW d = true) ∧ (isTy t .int = false → isW d = false) ∧ (isTy t .bl = true → isW d = false) := by
  cases d with
  | ref k =>
    have e : tyC h[k]? = some t := e
    cases q : h[k]? with
    | none => rw [q] at e; cases e
    | some c => rw [q] at e; cases c <;> cases e <;> simp [isTy, isW]
  | obj c l => cases e
  | _ => cases e; simp [isTy, isW]
theorem isw_run {d : D} {h : AH} (t : tame h d) (f : En → AH → Res D) (en : En) (hf : f en h = .ok d h) : vand (una (isi .int) f) (una vnot (una (isi .bl) f)) en h = .ok (.bl (isW d)) h := by
  obtain ⟨t, e⟩ := t
  have e1 : isi .int d h = .ok (.bl (isTy t .int)) h := by unfold isi; rw [e]
  have e2 : isi .bl d h = .ok (.bl (isTy t .bl)) h := by unfold isi; rw [e]
  obtain ⟨a1, a2, a3⟩ := ty_whole e
  simp only [a_vand, a_una, hf, bind_ok, e1, e2, a_vnot]
  cases b1 : isTy t .int with
  | false => rw [a2 b1]
  | true =>
    cases b2 : isTy t .bl with
    | false => rw [a1 b1 b2]; rfl
    | true => rw [a3 b2]; rfl
theorem whole_eq {d : D} {h : AH} (t : tame h d) : Fis_whole [d] h = .ok (.bl (isW d)) h := by
  refine f_ret (n := 1) (fb := mis_whole) ?_ rfl
  unfold mis_whole
  rw [a_ret, isw_run t (var 0) _ (by simp [startE])]
  rfl
theorem lint_eq {d : D} {h : AH} (t : tame h d) : Fx_law_int [d] h = .ok (.bl (isW d)) h := by
  refine f_ret (n := 1) (fb := mx_law_int) ?_ rfl
  unfold mx_law_int
  rw [a_ret, isw_run t (var 0) _ (by simp [startE])]
  rfl
@[simp] theorem tame_int (h : AH) (i : Int) : tame h (.int i) := ⟨_, rfl⟩
@[simp] theorem tame_tup (h : AH) (l : List D) : tame h (.tup l) := ⟨_, rfl⟩
@[simp] theorem tame_lst (h : AH) (l : List D) : tame h (.lst l) := ⟨_, rfl⟩
@[simp] theorem tame_non (h : AH) : tame h .non := ⟨_, rfl⟩
@[simp] theorem tame_str (h : AH) (x : Str) : tame h (.str x) := ⟨_, rfl⟩
@[simp] theorem tame_bl (h : AH) (b : Bool) : tame h (.bl b) := ⟨_, rfl⟩
@[simp] theorem tame_fr (h : AH) (q : Rat) : tame h (fr q) := ⟨_, rfl⟩

/-- what a written entry stands for -/
def fracL : List D → Option Rat
  | [.int t, .int b] => if 0 < b then some (t /. b) else none
  | _ => none
theorem fracL_ii (i j : Int) : fracL [.int i, .int j] = if 0 < j then some (i /. j) else none := rfl
def frac : D → Option Rat
  | .int i => some (i : Rat)
  | .tup l => fracL l
  | .lst l => fracL l
  | _ => none
/-- an entry whose numbers are small, whose parts are plain -/
def fineL (n : Nat) : List D → Prop
  | [.int t, .int b] => Sz n t ∧ Sz n b
  | l => ∀ d ∈ l, ∀ h, tame h d
def fine (n : Nat) : D → Prop
  | .tup l => fineL n l
  | .lst l => fineL n l
  | .ref _ => False
  | .obj _ _ => False
  | .fix _ => False
  | _ => True
theorem fr_int (i : Int) : fr (i : Rat) = .tup [.int i, .int 1] := rfl
theorem fine.tame {n : Nat} {d : D} (f : fine n d) (h : AH) : tame h d := by
  cases d with
  | ref k => exact f.elim
  | obj c l => exact f.elim
  | fix l => exact f.elim
  | _ => exact ⟨_, rfl⟩
/-- the body behind the first test, of a tuple or a list -/
theorem frac_body {n : Nat} (hn : n ≤ 9000) {d : D} {l : List D} (hd : d = .tup l ∨ d = .lst l) (f : fineL n l) (x : Str) (h : AH) :
    Ffraction_of [d, .str x] h = (match fracL l with
      | some q => .ok (fr q) h
      | none => .exc 1 (.str x) h) := by
  have tm : tame h d := by rcases hd with rfl | rfl <;> exact ⟨_, rfl⟩
  have w : isW d = false := by rcases hd with rfl | rfl <;> rfl
  have ty : isi2 .tup .lst d h = .ok (.bl true) h := by rcases hd with rfl | rfl <;> rfl
  have ln : bLen [d] h = .ok (.int (l.length : Nat)) h := by rcases hd with rfl | rfl <;> rfl
  have asg : ∀ a b en, l = [a, b] → gT 2 (gs1 (gN 2) (gs1 (gN 3) gs0)) d en = some ((en.set 2 (some a)).set 3 (some b)) := by rcases hd with rfl | rfl <;> (rintro a b en rfl; rfl)
  have we := whole_eq tm
  by_cases hl : l.length = 2
  · obtain ⟨a, b, rfl⟩ : ∃ a b, l = [a, b] := by
      match l, hl with
      | [a, b], _ => exact ⟨a, b, rfl⟩
    have ta : tame h a := by
      cases a with
      | int i => exact ⟨_, rfl⟩
      | _ => exact f _ (by simp) h
    have tb : tame h b := by
      cases b with
      | int i => exact ⟨_, rfl⟩
      | _ => cases a <;> exact f _ (by simp) h
    have wa := whole_eq ta
    have wb := whole_eq tb
    have g := fun en => a_goG _ en _ d h (asg a b en rfl)
    cases ha : isW a with
    | false =>
      have e : fracL [a, b] = none := by cases a <;> first | rfl | (cases ha)
      rw [e]
      refine f_exc (n := 4) (fb := mfraction_of) (en := [some d, some (.str x), some a, some b]) sel0 ?_ rfl
      unfold mfraction_of
      simp [startE, List.replicate, we, w, ty, ln, g, wa, ha]
    | true =>
      cases hb : isW b with
      | false =>
        have e : fracL [a, b] = none := by cases b <;> first | (cases a <;> rfl) | (cases hb)
        rw [e]
        refine f_exc (n := 4) (fb := mfraction_of) (en := [some d, some (.str x), some a, some b]) sel0 ?_ rfl
        unfold mfraction_of
        simp [startE, List.replicate, we, w, ty, ln, g, wa, ha, wb, hb]
      | true =>
        obtain ⟨i, rfl⟩ : ∃ i, a = .int i := by cases a <;> first | exact ⟨_, rfl⟩ | (cases ha)
        obtain ⟨j, rfl⟩ : ∃ j, b = .int j := by cases b <;> first | exact ⟨_, rfl⟩ | (cases hb)
        by_cases hj : 0 < j
        · have e : fracL [.int i, .int j] = some (i /. j) := by rw [fracL_ii, if_pos hj]
          rw [e]
          have r := ratios_eq hn f.1 f.2 hj h
          have hj2 : ¬ j < 1 := by omega
          refine f_ret (n := 4) (fb := mfraction_of) ?_ rfl
          unfold mfraction_of
          simp [startE, List.replicate, we, w, ty, ln, g, wa, wb, hj2, r]
        · have e : fracL [.int i, .int j] = none := by rw [fracL_ii, if_neg hj]
          rw [e]
          have hj2 : j < 1 := by omega
          refine f_exc (n := 4) (fb := mfraction_of) (en := [some d, some (.str x), some (.int i), some (.int j)]) sel0 ?_ rfl
          unfold mfraction_of
          simp [startE, List.replicate, we, w, ty, ln, g, wa, wb, hj2]
  · have e : fracL l = none := by
      unfold fracL
      split
      · simp at hl
      · rfl
    rw [e]
    have hl2 : ¬ ((l.length : Nat) : Int) = 2 := by omega
    refine f_exc (n := 4) (fb := mfraction_of) (en := [some d, some (.str x), none, none]) sel0 ?_ rfl
    unfold mfraction_of
    simp [startE, List.replicate, we, w, ty, ln, hl2]
/-- fraction_of -/
theorem fraction_eq {n : Nat} (hn : n ≤ 9000) {d : D} (f : fine n d) (x : Str) (h : AH) : Ffraction_of [d, .str x] h = (match frac d with
      | some q => .ok (fr q) h
      | none => .exc 1 (.str x) h) := by
  cases d with
  | tup l => exact frac_body hn (.inl rfl) f x h
  | lst l => exact frac_body hn (.inr rfl) f x h
  | int i =>
    refine f_ret (n := 4) (fb := mfraction_of) ?_ rfl
    unfold mfraction_of
    simp [startE, List.replicate, whole_eq (tame_int h i), fr_int]
  | ref k => exact f.elim
  | obj c l => exact f.elim
  | non =>
    refine f_exc (n := 4) (fb := mfraction_of) (en := [some .non, some (.str x), none, none]) sel0 ?_ rfl
    unfold mfraction_of
    simp [startE, List.replicate, whole_eq (tame_non h), isi2, tyD, isTy]
  | bl b =>
    refine f_exc (n := 4) (fb := mfraction_of) (en := [some (.bl b), some (.str x), none, none]) sel0 ?_ rfl
    unfold mfraction_of
    simp [startE, List.replicate, whole_eq (tame_bl h b), isi2, tyD, isTy]
  | str y =>
    refine f_exc (n := 4) (fb := mfraction_of) (en := [some (.str y), some (.str x), none, none]) sel0 ?_ rfl
    unfold mfraction_of
    simp [startE, List.replicate, whole_eq (tame_str h y), isi2, tyD, isTy]
  | fix l => exact f.elim
end Sh
/-! Plain laws, part 4: sums of fractions, bits, comprehensions, lots. -/
namespace Sh
open PySem Cb
open scoped Rat

theorem frac_fr (q : Rat) : frac (fr q) = some q := by
  show fracL [.int q.num, .int (q.den : Nat)] = some q
  rw [fracL_ii, if_pos (by have := q.den_nz; omega), Rat.num_divInt_den]
theorem fine_fr {n : Nat} {q : Rat} (h : Qz n q) : fine n (fr q) := h
theorem fraction_fr {n : Nat} (hn : n ≤ 9000) {q : Rat} (f : Qz n q) (x : Str) (h : AH) : Ffraction_of [fr q, .str x] h = .ok (fr q) h := by
  rw [fraction_eq hn (fine_fr f) x h, frac_fr]
@[simp] theorem gT_fr (n : Nat) (g : List D → En → Option En) (q : Rat) (en : En) : gT n g (fr q) en = bif 2 == n then g [.int q.num, .int (q.den : Nat)] en else none := rfl
theorem a_goG2 (i j : Nat) (en : En) (q : Rat) (h : AH) : goG (gT 2 (gs1 (gN i) (gs1 (gN j) gs0))) en (fr q) h = .nx ((en.set i (some (.int q.num))).set j (some (.int (q.den : Nat)))) h := rfl
theorem den_pos' (q : Rat) : (0 : Int) < (q.den : Int) := by have := q.den_nz; omega
theorem added_eq {n : Nat} (hn : n ≤ 4000) {p q : Rat} (hp : Qz n p) (hq : Qz n q) (h : AH) : Fadded [fr p, fr q] h = .ok (fr (p + q)) h := by
  have z1 := (hp.1.mul hq.2).add (hq.1.mul hp.2)
  have z2 := (hp.2.mul hq.2).mono (Nat.le_succ (n + n))
  have e : (p.num * (q.den : Int) + q.num * (p.den : Int)) /. ((p.den : Int) * (q.den : Int)) = p + q := by
    rw [← Rat.divInt_add_divInt _ _ (den_ne p) (den_ne q), Rat.num_divInt_den, Rat.num_divInt_den]
  have l := ratios_eq (by omega : n + n + 1 ≤ 9000) z1 z2 (Int.mul_pos (den_pos' p) (den_pos' q)) h
  rw [e] at l
  refine f_ret (n := 6) (fb := madded) ?_ rfl
  unfold madded
  simp [startE, List.replicate, fraction_fr (by omega : n ≤ 9000) hp "a" h, fraction_fr (by omega : n ≤ 9000) hq "b" h, a_goG2, o_mul hp.1 hq.2 h (by omega), o_mul hq.1 hp.2 h (by omega), o_mul hp.2 hq.2 h (by omega), l]
theorem times_eq {n : Nat} (hn : n ≤ 4000) {p q : Rat} (hp : Qz n p) (hq : Qz n q) (h : AH) : Ftimes [fr p, fr q] h = .ok (fr (p * q)) h := by
  have z1 := hp.1.mul hq.1
  have z2 := hp.2.mul hq.2
  have e : (p.num * q.num) /. ((p.den : Int) * (q.den : Int)) = p * q := by
    rw [← Rat.divInt_mul_divInt, Rat.num_divInt_den, Rat.num_divInt_den]
  have l := ratios_eq (by omega : n + n ≤ 9000) z1 z2 (Int.mul_pos (den_pos' p) (den_pos' q)) h
  rw [e] at l
  refine f_ret (n := 6) (fb := mtimes) ?_ rfl
  unfold mtimes
  simp [startE, List.replicate, fraction_fr (by omega : n ≤ 9000) hp "a" h, fraction_fr (by omega : n ≤ 9000) hq "b" h, a_goG2, o_mul hp.1 hq.1 h (by omega), o_mul hp.2 hq.2 h (by omega), l]
def cmpQ (p q : Rat) : Int := if p = q then 0 else if q < p then 1 else -1
theorem compare_eq {n : Nat} (hn : n ≤ 4000) {p q : Rat} (hp : Qz n p) (hq : Qz n q) (h : AH) : Fcompare [fr p, fr q] h = .ok (.int (cmpQ p q)) h := by
  refine f_ret (n := 7) (fb := mcompare) ?_ rfl
  have e1 : (p.num * (q.den : Int) - q.num * (p.den : Int) = 0) ↔ p = q := by
    rw [Rat.eq_iff_mul_eq_mul]; omega
  have e2 : (0 < p.num * (q.den : Int) - q.num * (p.den : Int)) ↔ q < p := by
    rw [Rat.lt_iff]; omega
  unfold mcompare cmpQ
  simp only [startE, List.replicate, a_seq, a_asg, a_cal, a_acons, List.map_cons, List.map_nil, List.length_cons, List.length_nil, List.cons_append, List.nil_append, Nat.reduceAdd, Nat.reduceSub, var_z, var_s, bind_ok, fraction_fr (by omega : n ≤ 9000) hp "a" h, fraction_fr (by omega : n ≤ 9000) hq "b" h, List.append_nil, beq_self_eq_true, cond_true, bindS_ok, a_goG2, seq_nx, List.set_cons_succ, List.set_cons_zero, a_set, a_bin, o_mul hp.1 hq.2 h (by omega), o_mul hq.1 hp.2 h (by omega), o_sub]
  by_cases c1 : p = q
  · have c1' := e1.mpr c1
    simp [c1, c1']
  · have c1' : ¬ (p.num * (q.den : Int) - q.num * (p.den : Int) = 0) := fun z => c1 (e1.mp z)
    by_cases c2 : q < p
    · have c2' := e2.mpr c2
      simp only [a_if, a_tcm, a_bin, var_z, var_s, bind_ok, o_eqi, a_asB, bindS_ok, decide_eq_false c1', cond_false, seq_nx, a_ret, a_vif, o_gt, decide_eq_true c2', cond_true, if_neg c1, if_pos c2]
    · have c2' : ¬ (0 < p.num * (q.den : Int) - q.num * (p.den : Int)) := fun z => c2 (e2.mp z)
      simp only [a_if, a_tcm, a_bin, a_una, var_z, var_s, bind_ok, o_eqi, a_asB, bindS_ok, decide_eq_false c1', cond_false, seq_nx, a_ret, a_vif, o_gt, decide_eq_false c2', o_neg, if_neg c1, if_neg c2]
theorem cmp_lt {p q : Rat} : decide (cmpQ p q < 0) = decide (p < q) := by
  unfold cmpQ
  rw [decide_eq_decide]
  split
  · rename_i e; subst e; simp [Rat.lt_irrefl]
  · rename_i e
    split
    · rename_i c
      exact ⟨fun z => by omega, fun z => absurd z (Rat.not_lt.mpr (Rat.le_of_lt c))⟩
    · rename_i c
      exact ⟨fun _ => by
        rcases (Rat.le_total : p ≤ q ∨ q ≤ p) with z | z
        · exact Rat.lt_of_le_of_ne z e
        · exact absurd (Rat.lt_of_le_of_ne z (Ne.symm e)) c, fun _ => by omega⟩

/-! ### bits -/
theorem and_nat (m n : Nat) : Builtin.bitAnd (m : Int) (n : Int) = ((m &&& n : Nat) : Int) := by
  unfold Builtin.bitAnd
  rw [decide_eq_true (by omega : (0 : Int) ≤ m), decide_eq_true (by omega : (0 : Int) ≤ n)]
  rfl
theorem or_nat (m n : Nat) : Builtin.bitOr (m : Int) (n : Int) = ((m ||| n : Nat) : Int) := by
  unfold Builtin.bitOr Builtin.bitAnd Builtin.bitNot
  rw [decide_eq_false (by omega : ¬ (0 : Int) ≤ -(m : Int) - 1), decide_eq_false (by omega : ¬ (0 : Int) ≤ -(n : Int) - 1)]
  show -(-(((-(-(m : Int) - 1) - 1).toNat ||| (-(-(n : Int) - 1) - 1).toNat : Nat) : Int) - 1) - 1 = _
  rw [show -(-(m : Int) - 1) - 1 = (m : Int) by omega, show -(-(n : Int) - 1) - 1 = (n : Int) by omega, Int.toNat_natCast, Int.toNat_natCast]
  omega
/-- number >> place & 1 -/
theorem bit_at (k i : Nat) : Builtin.bitAnd ((k : Int) / 2 ^ i) 1 = if k.testBit i then 1 else 0 := by
  have e : ((k : Int) / 2 ^ i) = ((k / 2 ^ i : Nat) : Int) := by rw [Int.natCast_ediv]; simp
  rw [e, show (1 : Int) = ((1 : Nat) : Int) from rfl, and_nat, Nat.and_one_is_mod, Nat.testBit_eq_decide_div_mod_eq]
  have := Nat.mod_lt (k / 2 ^ i) (by omega : 0 < 2)
  by_cases c : k / 2 ^ i % 2 = 1
  · simp [c]
  · have : k / 2 ^ i % 2 = 0 := by omega
    simp [this]
theorem or_pow {k i : Nat} (h : k.testBit i = false) : k ||| 2 ^ i = k + 2 ^ i := by
  have hb : k % 2 ^ (i + 1) < 2 ^ i := by
    rw [Nat.testBit_eq_decide_div_mod_eq] at h
    have h := of_decide_eq_false h
    have h1 : k % 2 ^ (i + 1) = k % 2 ^ i + 2 ^ i * (k / 2 ^ i % 2) := by
      rw [Nat.pow_succ, Nat.mod_mul]
    have h2 : k / 2 ^ i % 2 = 0 := by omega
    rw [h1, h2]
    have := Nat.mod_lt k (Nat.two_pow_pos i)
    omega
  have e0 : 2 ^ (i + 1) * (k / 2 ^ (i + 1)) + k % 2 ^ (i + 1) = k := Nat.div_add_mod _ _
  generalize k % 2 ^ (i + 1) = b at *
  generalize k / 2 ^ (i + 1) = a at *
  have p2 : (2 : Nat) ^ (i + 1) = 2 ^ i + 2 ^ i := by rw [Nat.pow_succ]; omega
  have e1 := Nat.two_pow_add_eq_or_of_lt (by omega : b < 2 ^ (i + 1)) a
  have e2 := Nat.two_pow_add_eq_or_of_lt (by omega : 2 ^ i + b < 2 ^ (i + 1)) a
  have e3 := Nat.two_pow_add_eq_or_of_lt hb 1
  rw [Nat.mul_one] at e3
  rw [← e0, e1, Nat.or_assoc, Nat.or_comm b, ← e3, ← e2, ← e1]
  omega
/-- the places of the lot with this number, below n -/
def pl (n k : Nat) : List Nat := (List.range n).filter k.testBit
theorem pl_more {n m k : Nat} (h : k < 2 ^ n) (l : n ≤ m) : pl m k = pl n k := by
  obtain ⟨d, rfl⟩ : ∃ d, m = n + d := ⟨m - n, by omega⟩
  induction d with
  | zero => rfl
  | succ d ih =>
    unfold pl
    rw [show n + (d + 1) = (n + d) + 1 by omega, List.range_succ, List.filter_append]
    have e : k.testBit (n + d) = false := Nat.testBit_lt_two_pow (Nat.lt_of_lt_of_le h (Nat.pow_le_pow_right (by omega) (by omega)))
    rw [List.filter_cons_of_neg (by rw [e]; simp), List.filter_nil, List.append_nil]
    exact ih (by omega)
def natsD (l : List Nat) : List D := l.map fun (i : Nat) => D.int (i : Int)
end Sh
/-! Plain laws, part 5: comprehensions, the pool, picks, lots. -/
namespace Sh
open PySem Cb
open scoped Rat

theorem lim_val : LIM = 16777216 := rfl
theorem lcL_eq {src : List (Nat × List D)} {g : D → En → Option En} {ft : En → AH → Res Bool} {fe : En → AH → Res D} {en : En} {h : AH} (p : D → Bool) (f : D → D) (o : okS src h = true) : ∀ (l : List D),
    (∀ d ∈ l, ∃ en1, g d en = some en1 ∧ ft en1 h = .ok (p d) h ∧ (p d = true → fe en1 h = .ok (f d) h)) → lcL src g ft fe en l h = .ok ((l.filter p).map f) h
  | [], _ => by unfold lcL; rw [o]; rfl
  | d :: l, s => by
    obtain ⟨en1, e1, e2, e3⟩ := s d (by simp)
    have ih := lcL_eq p f o l fun d hd => s d (by simp [hd])
    unfold lcL
    rw [o, e1]
    simp only [cond_true, e2, noX_ok, bind_ok]
    cases q : p d with
    | true => simp only [cond_true, e3 q, noX_ok, bind_ok, ih, List.filter_cons_of_pos q, List.map_cons]
    | false => simp only [cond_false, ih, List.filter_cons_of_neg (by rw [q]; simp : ¬ p d = true)]
theorem lcR_eq {vs : List Nat} {fi : En → AH → Res Wk} {g : D → En → Option En} {ft : En → AH → Res Bool} {fe : En → AH → Res D} {en : En} {h : AH} {l : List D} {src : List (Nat × List D)} (p : D → Bool) (f : D → D) (e : fi en h = .ok ⟨l, src⟩ h) (o : okS src h = true) (hl : l.length < 16777216)
    (s : ∀ d ∈ l, ∃ en1, g d (wipeE en vs) = some en1 ∧ ft en1 h = .ok (p d) h ∧ (p d = true → fe en1 h = .ok (f d) h)) : lcR vs fi g ft fe en h = .ok ((l.filter p).map f) h := by
  unfold lcR
  rw [e]
  simp only [bind_ok, lim_val, decide_eq_true hl, cond_true]
  exact lcL_eq p f o l s
theorem lcF_eq {vs : List Nat} {fi : En → AH → Res Wk} {g : D → En → Option En} {ft : En → AH → Res Bool} {fe : En → AH → Res D} {en : En} {h : AH} {l : List D} {src : List (Nat × List D)} (p : D → Bool) (f : D → D) (e : fi en h = .ok ⟨l, src⟩ h) (o : okS src h = true) (hl : l.length < 16777216)
    (s : ∀ d ∈ l, ∃ en1, g d (wipeE en vs) = some en1 ∧ ft en1 h = .ok (p d) h ∧ (p d = true → fe en1 h = .ok (f d) h)) : lcF vs fi g ft fe en h = .ok (.lst ((l.filter p).map f)) h := by
  unfold lcF
  rw [lcR_eq p f e o hl s]
  rfl
theorem lcF_all {vs : List Nat} {fi : En → AH → Res Wk} {g : D → En → Option En} {fe : En → AH → Res D} {en : En} {h : AH} {l : List D} {src : List (Nat × List D)} (f : D → D) (e : fi en h = .ok ⟨l, src⟩ h) (o : okS src h = true) (hl : l.length < 16777216)
    (s : ∀ d ∈ l, ∃ en1, g d (wipeE en vs) = some en1 ∧ fe en1 h = .ok (f d) h) : lcF vs fi g tyes fe en h = .ok (.lst (l.map f)) h := by
  rw [lcF_eq (fun _ => true) f e o hl fun d hd => by
    obtain ⟨en1, e1, e2⟩ := s d hd
    exact ⟨en1, e1, rfl, fun _ => e2⟩]
  rw [List.filter_eq_self.mpr (by intros; rfl)]
theorem lcC_all {vs : List Nat} {fi : En → AH → Res Wk} {g : D → En → Option En} {fe : En → AH → Res D} {en : En} {h : AH} {l : List D} {src : List (Nat × List D)} (f : D → D) (e : fi en h = .ok ⟨l, src⟩ h) (o : okS src h = true) (hl : l.length < 16777216)
    (s : ∀ d ∈ l, ∃ en1, g d (wipeE en vs) = some en1 ∧ fe en1 h = .ok (f d) h) : lcC vs fi g tyes fe en h = .ok (.ref h.length) (h ++ [.vals (l.map f)]) := by
  unfold lcC
  rw [lcR_eq (fun _ => true) f e o hl fun d hd => by
    obtain ⟨en1, e1, e2⟩ := s d hd
    exact ⟨en1, e1, rfl, fun _ => e2⟩]
  rw [List.filter_eq_self.mpr (by intros; rfl)]
  rfl
theorem w_lst {fa : En → AH → Res D} {en : En} {h h1 : AH} {l : List D} (e : fa en h = .ok (.lst l) h1) : wS fa en h = .ok ⟨l, []⟩ h1 := by
  show (fa en h).bind wkL = _
  rw [e]; rfl
theorem w_tup {fa : En → AH → Res D} {en : En} {h h1 : AH} {l : List D} (e : fa en h = .ok (.tup l) h1) : wS fa en h = .ok ⟨l, []⟩ h1 := by
  show (fa en h).bind wkL = _
  rw [e]; rfl
theorem w_fix {fa : En → AH → Res D} {en : En} {h h1 : AH} {l : List Int} (e : fa en h = .ok (.fix l) h1) : wS fa en h = .ok ⟨l.map D.int, []⟩ h1 := by
  show (fa en h).bind wkL = _
  rw [e]; rfl
theorem w_ref {fa : En → AH → Res D} {en : En} {h h1 : AH} {k : Nat} {l : List D} (e : fa en h = .ok (.ref k) h1) (c : cellL h1 k = some l) : wS fa en h = .ok ⟨l, [(k, l)]⟩ h1 := by
  show (fa en h).bind wkL = _
  rw [e]
  show wkL (.ref k) h1 = _
  unfold wkL
  simp only [c]
theorem okS_one {k : Nat} {l : List D} {h : AH} (c : cellL h k = some l) : okS [(k, l)] h = true := by
  unfold okS
  rw [okS_nil, Bool.and_true]
  exact @decide_eq_true _ (Classical.propDecidable _) c
@[simp] theorem a_bTupL (l : List D) (h : AH) : bTup [.lst l] h = mkT l h := rfl
@[simp] theorem a_bTupT (l : List D) (h : AH) : bTup [.tup l] h = .ok (.tup l) h := rfl
theorem a_bTupR {k : Nat} {l : List D} {h : AH} (c : cellL h k = some l) : bTup [.ref k] h = mkT l h := by
  show (match cellL h k with | some l => mkT l h | none => .stuck) = _
  rw [c]
@[simp] theorem a_lenL (l : List D) (h : AH) : bLen [.lst l] h = .ok (.int (l.length : Nat)) h := rfl
@[simp] theorem a_lenT (l : List D) (h : AH) : bLen [.tup l] h = .ok (.int (l.length : Nat)) h := rfl
@[simp] theorem a_lenF (l : List Int) (h : AH) : bLen [.fix l] h = .ok (.int (l.length : Nat)) h := by
  show Res.ok (D.int ((l.map D.int).length : Nat)) h = _
  rw [List.length_map]
theorem a_lenR {k : Nat} {l : List D} {h : AH} (c : cellL h k = some l) : bLen [.ref k] h = .ok (.int (l.length : Nat)) h := by
  show (match cellL h k with | some l => Res.ok (D.int (l.length : Nat)) h | none => .stuck) = _
  rw [c]
@[simp] theorem cell_end (h : AH) (l : List D) : cellL (h ++ [.vals l]) h.length = some l := by
  unfold cellL
  rw [List.getElem?_append_right (Nat.le_refl _), Nat.sub_self]
  rfl
@[simp] theorem cell_zero (l : List D) (h : AH) : cellL (.vals l :: h) 0 = some l := rfl
theorem set_end (h : AH) (c d : Cell) : (h ++ [c]).set h.length d = h ++ [d] := by
  rw [List.set_append_right _ _ (Nat.le_refl _), Nat.sub_self]
  rfl
/-- append to a list -/
theorem a_app {fa fe : En → AH → Res D} {en : En} {h h2 : AH} {k : Nat} {l l0 : List D} {d : D} (e : fa en h = .ok (.ref k) h) (c0 : cellL h k = some l0) (e2 : fe en h = .ok d h2) (c : cellL h2 k = some l) (hl : l.length < 16777216) : met1 oApp fa fe en h = .ok .non (h2.set k (.vals (l ++ [d]))) := by
  unfold met1
  rw [e]
  simp only [bind_ok, c0, e2, c]
  unfold oApp
  rw [lim_val, decide_eq_true hl]
  rfl

/-! ### the pool -/
def hp (ns : List Int) (r : AH) : AH := .vals (ns.map D.int) :: r
@[simp] theorem cell_hp (ns : List Int) (r : AH) : cellL (hp ns r) 0 = some (ns.map D.int) := rfl
@[simp] theorem len_hp (ns : List Int) (r : AH) : (hp ns r).length = r.length + 1 := rfl
theorem set_hp (ns ns' : List Int) (r : AH) : (hp ns r).set 0 (.vals (ns'.map D.int)) = hp ns' r := rfl
theorem app_hp (ns : List Int) (r s : AH) : hp ns r ++ s = hp ns (r ++ s) := rfl
def pk (ns : List Int) (m : Int) : Int := match ns.getLast? with
  | none => 0
  | some x => x % m
theorem pk_lo {ns : List Int} {m : Int} (h : 0 < m) : 0 ≤ pk ns m := by
  unfold pk
  split
  · exact Int.le_refl 0
  · exact Int.emod_nonneg _ (by omega)
theorem pk_hi {ns : List Int} {m : Int} (h : 0 < m) : pk ns m < m := by
  unfold pk
  split
  · exact h
  · exact Int.emod_lt_of_pos _ h
theorem pk_nat {ns : List Int} {m : Nat} (h : 0 < m) : ∃ r : Nat, pk ns (m : Int) = (r : Int) ∧ r < m := by
  have h1 := pk_lo (ns := ns) (m := (m : Int)) (by omega)
  have h2 := pk_hi (ns := ns) (m := (m : Int)) (by omega)
  exact ⟨(pk ns (m : Int)).toNat, by omega, by omega⟩
theorem belows_map_int (n : Nat) (ns : List Int) : belows n (ns.map D.int) = true := belows_ints ns
/-- a def that changes the pool alone -/
theorem gc_hp {ns ns' : List Int} {r : AH} {d : D} (b : below (hp ns r).length d = true) : gcR sel0 (hp ns r) (.ok d (hp ns' r)) = .ok d (hp ns' r) := by
  have g : gcOk (hp ns r) (hp ns' r) := by
    have z := gcOk_set (k := 0) (c := .vals (ns'.map D.int)) (gcOk_refl (hp ns r)) (fun _ => by show belows _ _ = true; exact belows_map_int _ _)
    exact z
  rw [gc_drop g (frz_below b)]
  have : (hp ns' r).take (hp ns r).length = hp ns' r := by
    rw [show (hp ns r).length = (hp ns' r).length from rfl]; exact List.take_length
  rw [this]
theorem f_hp {n : Nat} {fb : En → AH → RS} {ds : List D} {ns ns' : List Int} {r : AH} {d : D} (e : fb (startE n ds) (hp ns r) = .ret d (hp ns' r)) (b : below (hp ns r).length d = true) : fnm sel0 n fb ds (hp ns r) = .ok d (hp ns' r) := by
  unfold fnm
  rw [e]
  exact gc_hp b
theorem pop_map {x : Int} : ∀ {ns : List Int}, ns.getLast? = some x → (ns.map D.int)[(ns.map D.int).length - 1]? = some (.int x) := by
  intro ns e
  rw [List.length_map, List.getElem?_map]
  rw [List.getLast?_eq_getElem?] at e
  rw [e]
  rfl
@[simp] theorem pick_eq (ns : List Int) (r : AH) {m : Int} (hm : 0 < m) : Fx_law_pick [.ref 0, .int m] (hp ns r) = .ok (.int (pk ns m)) (hp ns.dropLast r) := by
  refine f_hp (n := 2) (fb := mx_law_pick) ?_ rfl
  unfold mx_law_pick pk
  cases e : ns.getLast? with
  | none =>
    have : ns = [] := by simpa using e
    subst this
    simp [startE, List.replicate, a_lenR (cell_hp _ _)]
  | some x =>
    have hn : ns ≠ [] := by rintro rfl; simp at e
    have hl : ¬ ((ns.length : Nat) : Int) = 0 := by
      have := List.length_pos_iff.mpr hn
      omega
    have hp0 : met0 oPop (var 0) [some (.ref 0), some (.int m)] (hp ns r) = .ok (.int x) (hp ns.dropLast r) := by
      unfold met0
      simp only [var_z, bind_ok, cell_hp]
      unfold oPop
      rw [pop_map e, ← List.map_dropLast]
      rfl
    simp [startE, List.replicate, a_lenR (cell_hp _ _), hn, skip, hp0, o_mod hm]

end Sh
/-! Plain laws, part 6: lots. -/
namespace Sh
open PySem Cb
open scoped Rat

theorem for_rng {b : En → AH → RS} {j n : Nat} (P : Nat → En → AH → Prop) {en : En} {h : AH} (p : P 0 en h)
    (s : ∀ k, k < n → ∀ en h, P k en h → ∃ en2 h2, (b (en.set j (some (.int (k : Int)))) h = .nx en2 h2 ∨ b (en.set j (some (.int (k : Int)))) h = .cont en2 h2) ∧ P (k + 1) en2 h2) :
    ∃ en' h', forL [] (gN j) b (rngI 0 1 n) en h = .nx en' h' ∧ P n en' h' := by
  have loop := forL_inv (g := gN j) (b := b) P (rngI 0 1 n) 0 en h p (by
    intro k hk en h q
    rw [rng_len] at hk
    rw [rng_get, show (0 : Int) + (k : Int) * 1 = (k : Int) by omega]
    rw [Nat.zero_add] at q ⊢
    exact ⟨_, rfl, s k hk en h q⟩)
  rw [rng_len, Nat.zero_add] at loop
  exact loop
/-- a loop that may end early -/
theorem forL_or {g : D → En → Option En} {b : En → AH → RS} (P : Nat → En → AH → Prop) (Q : RS → Prop) : ∀ (l : List D) (k : Nat) (en : En) (h : AH), P k en h →
    (∀ i (hi : i < l.length) en h, P (k + i) en h → ∃ en1, g l[i] en = some en1 ∧ ((∃ en2 h2, (b en1 h = .nx en2 h2 ∨ b en1 h = .cont en2 h2) ∧ P (k + i + 1) en2 h2) ∨ ((∃ d h2, b en1 h = .ret d h2 ∧ Q (.ret d h2)) ∨ ∃ c d en2 h2, b en1 h = .exc c d en2 h2 ∧ Q (.exc c d en2 h2)))) →
    (∃ en' h', forL [] g b l en h = .nx en' h' ∧ P (k + l.length) en' h') ∨ Q (forL [] g b l en h)
  | [], k, en, h, p, _ => .inl ⟨en, h, rfl, by simpa using p⟩
  | d :: l, k, en, h, p, s => by
    obtain ⟨en1, e1, z⟩ := s 0 (by simp) en h (by simpa using p)
    rw [forL_cons g b d l en en1 h (by simpa using e1)]
    rcases z with ⟨en2, h2, e2, p2⟩ | ⟨x, h2, e2, q2⟩ | ⟨c, x, en2, h2, e2, q2⟩
    · rw [List.length_cons, show k + (l.length + 1) = k + 1 + l.length by omega]
      have ih := forL_or P Q l (k + 1) en2 h2 (by simpa using p2) fun i hi en h q => by
        obtain ⟨a, ea, z⟩ := s (i + 1) (by simp; omega) en h (by rw [show k + (i + 1) = k + 1 + i by omega]; exact q)
        rw [show k + (i + 1) + 1 = k + 1 + i + 1 by omega] at z
        exact ⟨a, by simpa using ea, z⟩
      rcases e2 with e2 | e2 <;> (rw [e2]; exact ih)
    · rw [e2]; exact .inr q2
    · rw [e2]; exact .inr q2
theorem for_rng_or {b : En → AH → RS} {j n : Nat} (P : Nat → En → AH → Prop) (Q : RS → Prop) {en : En} {h : AH} (p : P 0 en h)
    (s : ∀ k, k < n → ∀ en h, P k en h → (∃ en2 h2, (b (en.set j (some (.int (k : Int)))) h = .nx en2 h2 ∨ b (en.set j (some (.int (k : Int)))) h = .cont en2 h2) ∧ P (k + 1) en2 h2) ∨ ((∃ d h2, b (en.set j (some (.int (k : Int)))) h = .ret d h2 ∧ Q (.ret d h2)) ∨ ∃ c d en2 h2, b (en.set j (some (.int (k : Int)))) h = .exc c d en2 h2 ∧ Q (.exc c d en2 h2))) :
    (∃ en' h', forL [] (gN j) b (rngI 0 1 n) en h = .nx en' h' ∧ P n en' h') ∨ Q (forL [] (gN j) b (rngI 0 1 n) en h) := by
  have loop := forL_or (g := gN j) (b := b) P Q (rngI 0 1 n) 0 en h p (by
    intro k hk en h q
    rw [rng_len] at hk
    rw [rng_get, show (0 : Int) + (k : Int) * 1 = (k : Int) by omega]
    rw [Nat.zero_add] at q ⊢
    exact ⟨_, rfl, s k hk en h q⟩)
  rw [rng_len, Nat.zero_add] at loop
  exact loop
/-- the first of n numbers that keeps p -/
def fst (p : Nat → Bool) (n : Nat) : Option Nat := (List.range n).find? p
theorem fst_zero (p : Nat → Bool) : fst p 0 = none := rfl
theorem fst_succ (p : Nat → Bool) (n : Nat) : fst p (n + 1) = (fst p n).or (if p n then some n else none) := by
  unfold fst
  rw [List.range_succ, List.find?_append]
  congr 1
  cases q : p n <;> simp [q]
theorem fst_none {p : Nat → Bool} {n : Nat} : fst p n = none ↔ ∀ k, k < n → p k = false := by
  unfold fst
  rw [List.find?_eq_none]
  simp
theorem fst_hit {p : Nat → Bool} {n k : Nat} (hk : k < n) (hp : p k = true) (hn : fst p k = none) : fst p n = some k := by
  obtain ⟨d, rfl⟩ : ∃ d, n = (k + 1) + d := ⟨n - (k + 1), by omega⟩
  induction d with
  | zero => rw [Nat.add_zero, fst_succ, hn, if_pos hp]; rfl
  | succ d ih => rw [show k + 1 + (d + 1) = (k + 1 + d) + 1 by omega, fst_succ, ih (by omega)]; rfl

def lotT (n k : Nat) : D := .tup (natsD (pl n k))
def lotL (n k : Nat) : D := .lst (natsD (pl n k))
theorem pl_low {n k : Nat} (h : k < 2 ^ n) : pl (n + 1) k = pl n k := pl_more h (Nat.le_succ n)
theorem pl_high {n k : Nat} (h : k < 2 ^ n) : pl (n + 1) (2 ^ n + k) = pl n k ++ [n] := by
  unfold pl
  rw [List.range_succ, List.filter_append]
  have e : (2 ^ n + k).testBit n = true := by rw [Nat.testBit_two_pow_add_eq, Nat.testBit_lt_two_pow h]; rfl
  rw [List.filter_cons_of_pos e, List.filter_nil]
  congr 1
  apply List.filter_congr
  intro i hi
  exact Nat.testBit_two_pow_add_gt (List.mem_range.mp hi) k
theorem range_two (n : Nat) : List.range (2 ^ (n + 1)) = List.range (2 ^ n) ++ (List.range (2 ^ n)).map (2 ^ n + ·) := by
  rw [Nat.pow_succ, Nat.mul_two, List.range_add]
theorem natsD_app (l : List Nat) (i : Nat) : natsD (l ++ [i]) = natsD l ++ [.int (i : Int)] := by simp [natsD]
@[simp] theorem natsD_len (l : List Nat) : (natsD l).length = l.length := by simp [natsD]
theorem pl_len (n k : Nat) : (pl n k).length ≤ n := by
  unfold pl
  have := List.length_filter_le k.testBit (List.range n)
  simpa using this
def lots (n : Nat) : List D := (List.range (2 ^ n)).map (lotL n)
@[simp] theorem lots_len (n : Nat) : (lots n).length = 2 ^ n := by simp [lots]
theorem lots_zero : lots 0 = [.lst []] := rfl
def lmore (n : Nat) : D → D
  | .lst l => .lst (l ++ [.int (n : Int)])
  | d => d
theorem lots_succ (n : Nat) : lots (n + 1) = lots n ++ (lots n).map (lmore n) := by
  unfold lots
  rw [range_two, List.map_append, List.map_map, List.map_map]
  congr 1
  · apply List.map_congr_left
    intro k hk
    unfold lotL
    rw [pl_low (List.mem_range.mp hk)]
  · apply List.map_congr_left
    intro k hk
    show lotL (n + 1) (2 ^ n + k) = _
    unfold lotL
    rw [pl_high (List.mem_range.mp hk), natsD_app]
    rfl
@[simp] theorem o_addL {a b : List D} (l : a.length + b.length ≤ 16777216) (h : AH) : dAdd (.lst a) (.lst b) h = .ok (.lst (a ++ b)) h := by
  show (bif decide (a.length + b.length ≤ LIM) then _ else _) = _
  rw [lim_val, decide_eq_true l]; rfl
theorem lots_step {n : Nat} (hn : n ≤ 20) (s : D) (y : Option D) (h : AH) : sSet 1 (bin dAdd (var 1) (lcF [3] (wS (var 1)) (gN 3) tyes (bin dAdd (var 3) (dsp mkF (acons (var 2) anil))))) [some s, some (.lst (lots n)), some (.int (n : Int)), y] h = .nx [some s, some (.lst (lots (n + 1))), some (.int (n : Int)), y] h := by
  have pw : 2 ^ n ≤ 2 ^ 20 := Nat.pow_le_pow_right (by omega) hn
  have c := lcF_all (vs := [3]) (fi := wS (var 1)) (g := gN 3) (fe := bin dAdd (var 3) (dsp mkF (acons (var 2) anil))) (en := [some s, some (.lst (lots n)), some (.int (n : Int)), y]) (h := h) (l := lots n) (src := []) (lmore n) (w_lst (by simp)) rfl (by rw [lots_len]; omega) (by
      intro d hd
      obtain ⟨k, hk, rfl⟩ := List.mem_map.mp hd
      refine ⟨_, rfl, ?_⟩
      have := pl_len n k
      unfold lotL
      have e : (natsD (pl n k)).length + [D.int (n : Int)].length ≤ 16777216 := by
        show _ + 1 ≤ _
        rw [natsD_len]; omega
      simp [wipeE, o_addL e, lmore])
  have e : (lots n).length + ((lots n).map (lmore n)).length ≤ 16777216 := by rw [List.length_map, lots_len]; omega
  rw [a_set, a_bin, var_s, var_z, bind_ok, c, bind_ok, o_addL e, lots_succ]
  rfl
theorem lots_eq {n : Nat} (hn : n ≤ 20) (h : AH) : Fx_law_lots [.int (n : Int)] h = .ok (.lst (lots n)) h := by
  obtain ⟨en', h', e', rfl, x, y, rfl⟩ := for_rng (n := n) (j := 2) (b := sSet 1 (bin dAdd (var 1) (lcF [3] (wS (var 1)) (gN 3) tyes (bin dAdd (var 3) (dsp mkF (acons (var 2) anil)))))) (fun k en h' => h' = h ∧ ∃ x y, en = [some (.int (n : Int)), some (.lst (lots k)), x, y]) (en := [some (.int (n : Int)), some (.lst (lots 0)), none, none]) (h := h) ⟨rfl, none, none, rfl⟩ (by
    rintro k hk en h' ⟨rfl, x, y, rfl⟩
    exact ⟨_, _, .inl (lots_step (n := k) (by omega) _ y h'), rfl, _, _, rfl⟩)
  have hw : wkR1 (var 0) [some (.int (n : Int)), some (.lst [.lst []]), none, none] h' = .ok ⟨rngI 0 1 n, []⟩ h' := w_rng1 (by rw [var_z]) (by omega)
  rw [lots_zero] at e'
  have h1 : sSet 1 (dsp mkF (acons (dsp mkF anil) anil)) [some (.int (n : Int)), none, none, none] h' = .nx [some (.int (n : Int)), some (.lst [.lst []]), none, none] h' := rfl
  have h2 : startE 4 [.int (n : Int)] = [some (.int (n : Int)), none, none, none] := rfl
  refine f_ret (n := 4) (fb := mx_law_lots) ?_ ?_
  · unfold mx_law_lots
    rw [h2, a_seq, h1, seq_nx, a_seq, a_for, hw, bindS_ok, e', seq_nx, a_ret, var_s, var_z, bindS_ok]
  · rw [below_lst]
    apply belows_iff.mpr
    intro d hd
    obtain ⟨k, hk, rfl⟩ := List.mem_map.mp hd
    unfold lotL
    rw [below_lst]
    apply belows_iff.mpr
    intro d hd
    obtain ⟨i, _, rfl⟩ := List.mem_map.mp hd
    rfl
theorem lots_get {n k : Nat} (hk : k < 2 ^ n) : (lots n)[k]? = some (lotL n k) := by
  unfold lots
  rw [List.getElem?_map, List.getElem?_range hk]
  rfl
end Sh
/-! Plain laws, part 7: the program's lots, counts. -/
namespace Sh
open PySem Cb
open scoped Rat

section
variable {fn : List D → AH → Res D} {f g i j : En → AH → Res D} {d e x y : D} {en : En} {h h1 h2 h3 h4 : AH} {vs : List D}
theorem as_nil : anil en h = .ok [] h := rfl
theorem as_cons {fs : En → AH → Res (List D)} (e1 : f en h = .ok d h1) (e2 : fs en h1 = .ok vs h2) : acons f fs en h = .ok (d :: vs) h2 := by rw [a_acons, e1, bind_ok, e2, bind_ok]
theorem as1 (e1 : f en h = .ok d h1) : acons f anil en h = .ok [d] h1 := as_cons e1 rfl
theorem as2 (e1 : f en h = .ok d h1) (e2 : g en h1 = .ok e h2) : acons f (acons g anil) en h = .ok [d, e] h2 := as_cons e1 (as1 e2)
theorem as3 (e1 : f en h = .ok d h1) (e2 : g en h1 = .ok e h2) (e3 : i en h2 = .ok x h3) : acons f (acons g (acons i anil)) en h = .ok [d, e, x] h3 := as_cons e1 (as2 e2 e3)
theorem as4 (e1 : f en h = .ok d h1) (e2 : g en h1 = .ok e h2) (e3 : i en h2 = .ok x h3) (e4 : j en h3 = .ok y h4) : acons f (acons g (acons i (acons j anil))) en h = .ok [d, e, x, y] h4 := as_cons e1 (as3 e2 e3 e4)
theorem calN {fs : En → AH → Res (List D)} (ea : fs en h = .ok vs h1) (hl : vs.length = vs.length + 0) : cal [] vs.length fn fs en h = fn vs h1 := by
  rw [a_cal, ea, bind_ok, List.append_nil]
  have : (vs.length + ([] : List D).length == vs.length) = true := by simp
  rw [this]; rfl
theorem cal1 (e1 : f en h = .ok d h1) : cal [] 1 fn (acons f anil) en h = fn [d] h1 := calN (vs := [d]) (as1 e1) rfl
theorem cal2 (e1 : f en h = .ok d h1) (e2 : g en h1 = .ok e h2) : cal [] 2 fn (acons f (acons g anil)) en h = fn [d, e] h2 := calN (vs := [d, e]) (as2 e1 e2) rfl
theorem cal3 (e1 : f en h = .ok d h1) (e2 : g en h1 = .ok e h2) (e3 : i en h2 = .ok x h3) : cal [] 3 fn (acons f (acons g (acons i anil))) en h = fn [d, e, x] h3 := calN (vs := [d, e, x]) (as3 e1 e2 e3) rfl
theorem cal4 (e1 : f en h = .ok d h1) (e2 : g en h1 = .ok e h2) (e3 : i en h2 = .ok x h3) (e4 : j en h3 = .ok y h4) : cal [] 4 fn (acons f (acons g (acons i (acons j anil)))) en h = fn [d, e, x, y] h4 := calN (vs := [d, e, x, y]) (as4 e1 e2 e3 e4) rfl
theorem dsp1 {mk : List D → AH → Res D} (e1 : f en h = .ok d h1) : dsp mk (acons f anil) en h = mk [d] h1 := by rw [a_dsp, as1 e1, bind_ok]
theorem dsp2 {mk : List D → AH → Res D} (e1 : f en h = .ok d h1) (e2 : g en h1 = .ok e h2) : dsp mk (acons f (acons g anil)) en h = mk [d, e] h2 := by rw [a_dsp, as2 e1 e2, bind_ok]
theorem bin2 {o : D → D → AH → Res D} (e1 : f en h = .ok d h1) (e2 : g en h1 = .ok e h2) : bin o f g en h = o d e h2 := by rw [a_bin, e1, bind_ok, e2, bind_ok]
theorem set1 {k : Nat} (e1 : f en h = .ok d h1) : sSet k f en h = .nx (en.set k (some d)) h1 := by rw [a_set, e1, bindS_ok]
theorem ret1 (e1 : f en h = .ok d h1) : sRet f en h = .ret d h1 := by rw [a_ret, e1, bindS_ok]
theorem expr1 (e1 : f en h = .ok d h1) : sExpr f en h = .nx en h1 := by rw [a_expr, e1, bindS_ok]
theorem seq1 {p q : En → AH → RS} {en1 : En} (e1 : p en h = .nx en1 h1) : seq p q en h = q en1 h1 := by rw [a_seq, e1, seq_nx]
theorem if1 {gc : En → AH → Res Bool} {p q : En → AH → RS} (e1 : gc en h = .ok true h1) : sIf gc p q en h = p en h1 := by rw [a_if, e1, bindS_ok, cond_true]
theorem if0 {gc : En → AH → Res Bool} {p q : En → AH → RS} (e1 : gc en h = .ok false h1) : sIf gc p q en h = q en h1 := by rw [a_if, e1, bindS_ok, cond_false]
end
theorem below_natsD (m : Nat) (l : List Nat) : belows m (natsD l) = true := by
  apply belows_iff.mpr
  intro d hd
  obtain ⟨i, _, rfl⟩ := List.mem_map.mp hd
  rfl
theorem below_lotT (m n k : Nat) : below m (lotT n k) = true := below_natsD m _
theorem below_lotL (m n k : Nat) : below m (lotL n k) = true := below_natsD m _
theorem rng_natsD (n : Nat) : rngI 0 1 n = natsD (List.range n) := by
  unfold rngI natsD
  apply List.map_congr_left
  intro i _
  rw [show (0 : Int) + (i : Int) * 1 = (i : Int) by omega]
theorem bits_nat {n k : Nat} (hk : k < 2 ^ n) : bits (k : Int) ≤ n := bits_sz (sz_nat hk)
theorem nat_bits (k : Nat) : k < 2 ^ bits (k : Int) := by
  have : Sz (bits (k : Int)) (k : Int) := sz_bits (Nat.le_refl _)
  simpa [Sz] using this
theorem bit_test {k i : Nat} {en : En} {h : AH} {a b : Nat} (ha : var a en h = .ok (.int (k : Int)) h) (hb : var b en h = .ok (.int (i : Int)) h) : bin dAnd (bin dShr (var a) (var b)) (cI 1) en h = .ok (.int (if k.testBit i then 1 else 0)) h := by
  rw [a_bin, a_bin, ha, bind_ok, hb, bind_ok, o_shr, bind_ok]
  show dAnd (.int ((k : Int) / 2 ^ i)) (.int 1) h = _
  rw [o_and, bit_at]
def tbD (k : Nat) : D → Bool
  | .int i => k.testBit i.toNat
  | _ => false
theorem tbD_i (k i : Nat) : tbD k (.int (i : Int)) = k.testBit i := rfl
theorem natsD_filter (k : Nat) (l : List Nat) : (natsD l).filter (tbD k) = natsD (l.filter k.testBit) := by
  unfold natsD
  rw [List.filter_map]
  congr 1
theorem tst_bit {g : En → AH → Res D} {en : En} {h : AH} {b : Bool} (e : g en h = .ok (.int (if b = true then 1 else 0)) h) : tst g en h = .ok b h := by
  rw [a_tst, e, bind_ok]
  cases b <;> rfl
theorem lot_from_eq {n k : Nat} (hk : k < 2 ^ n) (hn : n ≤ 20) (h : AH) : Flot_from [.int (k : Int)] h = .ok (lotT n k) h := by
  have bz := bits_nat hk
  have c := lcF_eq (vs := [1]) (fi := wkR1 (una dBits (var 0))) (g := gN 1) (ft := tst (bin dAnd (bin dShr (var 0) (var 1)) (cI 1))) (fe := var 1) (en := [some (.int (k : Int)), none]) (h := h) (l := rngI 0 1 (bits (k : Int))) (src := []) (tbD k) id (w_rng1 (by simp) (by omega)) rfl (by rw [rng_len]; omega) (by
      intro d hd
      rw [rng_natsD] at hd
      obtain ⟨i, hi, rfl⟩ := List.mem_map.mp hd
      exact ⟨_, rfl, by rw [tbD_i]; exact tst_bit (bit_test rfl rfl), fun _ => rfl⟩)
  rw [List.map_id, rng_natsD, natsD_filter] at c
  have e : natsD ((List.range (bits (k : Int))).filter k.testBit) = natsD (pl n k) := by
    rw [pl_more (nat_bits k) bz]; rfl
  rw [e] at c
  have h2 : startE 2 [.int (k : Int)] = [some (.int (k : Int)), none] := rfl
  refine f_ret (n := 2) (fb := mlot_from) ?_ (below_lotT _ _ _)
  unfold mlot_from
  have := pl_len n k
  rw [h2, a_ret, a_dsp, a_acons, c, bind_ok]
  show ((Res.ok [D.lst (natsD (pl n k))] h).bind bTup).bindS _ _ = _
  rw [bind_ok, a_bTupL, mkT_le (by rw [natsD_len]; omega)]
  rfl
theorem size_ok {n : Nat} (h1 : 1 ≤ n) (h2 : n ≤ 12) (h : AH) : Fx_lots_size [.int (n : Int)] h = .ok .non h := by
  have e1 : decide ((1 : Int) ≤ (n : Int)) = true := decide_eq_true (by omega)
  have e2 : decide ((n : Int) ≤ 12) = true := decide_eq_true (by omega)
  refine f_nx (n := 1) (fb := mx_lots_size) (en := [some (.int (n : Int))]) ?_
  unfold mx_lots_size tch
  simp [startE, List.replicate, whole_eq (tame_int h n), e1, e2, skip, asB]
theorem all_lots_eq {n : Nat} (h1 : 1 ≤ n) (h2 : n ≤ 12) (h : AH) : Fall_lots [.int (n : Int)] h = .ok (.tup ((List.range (2 ^ n)).map (lotT n))) h := by
  have pw : 2 ^ n ≤ 2 ^ 12 := Nat.pow_le_pow_right (by omega) h2
  have e1 : dShl (.int 1) (.int (n : Int)) h = .ok (.int ((2 ^ n : Nat) : Int)) h := by
    rw [o_shl (by omega) (by decide)]
    congr 2
    simp [Int.natCast_pow]
  have c := lcF_all (vs := [1]) (fi := wkR1 (bin dShl (cI 1) (var 0))) (g := gN 1) (fe := cal [] 1 Flot_from (acons (var 1) anil)) (en := [some (.int (n : Int)), none]) (h := h) (l := natsD (List.range (2 ^ n))) (src := []) (fun d => match d with
    | .int i => lotT n i.toNat
    | d => d) (by rw [← rng_natsD]; exact w_rng1 (by rw [a_bin]; show (Res.ok (D.int 1) h).bind _ = _; rw [bind_ok, var_z, bind_ok, e1]) (by omega)) rfl (by rw [natsD_len, List.length_range]; omega) (by
      intro d hd
      obtain ⟨i, hi, rfl⟩ := List.mem_map.mp hd
      refine ⟨_, rfl, ?_⟩
      have hi := List.mem_range.mp hi
      have e := lot_from_eq hi (by omega : n ≤ 20) h
      rw [cal1 (d := .int (i : Int)) (h1 := h) rfl, e]
      show _ = Res.ok (lotT n (i : Int).toNat) h
      rw [Int.toNat_natCast])
  have e3 : (natsD (List.range (2 ^ n))).map (fun d => match d with
    | .int i => lotT n i.toNat
    | d => d) = (List.range (2 ^ n)).map (lotT n) := by
    unfold natsD
    rw [List.map_map]
    rfl
  rw [e3] at c
  have h3 : startE 2 [.int (n : Int)] = [some (.int (n : Int)), none] := rfl
  refine f_ret (n := 2) (fb := mall_lots) ?_ ?_
  · unfold mall_lots
    have h4 : sExpr (cal [] 1 Fx_lots_size (acons (var 0) anil)) [some (.int (n : Int)), none] h = .nx [some (.int (n : Int)), none] h := by
      rw [a_expr, cal1 (d := .int (n : Int)) (h1 := h) rfl, size_ok h1 h2]
      rfl
    rw [h3, a_seq, h4, seq_nx, a_ret, a_dsp, a_acons, c, bind_ok]
    show ((Res.ok [D.lst _] h).bind bTup).bindS _ _ = _
    rw [bind_ok, a_bTupL, mkT_le (by rw [List.length_map, List.length_range]; omega)]
    rfl
  · rw [below_tup]
    apply belows_iff.mpr
    intro d hd
    obtain ⟨k, _, rfl⟩ := List.mem_map.mp hd
    exact below_lotT _ _ _
/-! ### the law's number of one place -/
theorem number_one {i : Nat} (hi : i < 6) (h : AH) : Fx_law_number [.lst [.int (i : Int)]] h = .ok (.int ((2 ^ i : Nat) : Int)) h := by
  have hw : wS (var 0) [some (.lst [.int (i : Int)]), some (.int 0), none] h = .ok ⟨[.int (i : Int)], []⟩ h := w_lst rfl
  have lp : forL [] (gN 2) (sSet 1 (bin dAdd (var 1) (bin ixD (dsp mkF (acons (cI 1) (acons (cI 2) (acons (cI 4) (acons (cI 8) (acons (cI 16) (acons (cI 32) anil))))))) (var 2)))) [.int (i : Int)] [some (.lst [.int (i : Int)]), some (.int 0), none] h = .nx [some (.lst [.int (i : Int)]), some (.int ((2 ^ i : Nat) : Int)), some (.int (i : Int))] h := by
    rw [forL_cons _ _ _ _ _ _ _ rfl]
    obtain rfl | rfl | rfl | rfl | rfl | rfl : i = 0 ∨ i = 1 ∨ i = 2 ∨ i = 3 ∨ i = 4 ∨ i = 5 := by omega
    all_goals rfl
  have h2 : startE 3 [.lst [.int (i : Int)]] = [some (.lst [.int (i : Int)]), none, none] := rfl
  have h1 : sSet 1 (cI 0) [some (.lst [.int (i : Int)]), none, none] h = .nx [some (.lst [.int (i : Int)]), some (.int 0), none] h := rfl
  refine f_ret (n := 3) (fb := mx_law_number) ?_ rfl
  unfold mx_law_number
  rw [h2, a_seq, h1, seq_nx, a_seq, a_for, hw, bindS_ok, lp, seq_nx, a_ret, var_s, var_z, bindS_ok]
end Sh
/-! Plain laws, part 8: new lists handed on; hand. -/
namespace Sh
open PySem Cb
open scoped Rat

/-! ### ends of defs with new things -/
theorem take_app (h s : AH) : (h ++ s).take h.length = h := by simp
theorem get_end (h : AH) (c : Cell) : (h ++ [c])[h.length]? = some c := by simp
theorem below_ref (n k : Nat) : below n (.ref k) = decide (k < n) := rfl
theorem mapO_frz {f : Nat} {h : AH} {n : Nat} {ks : List Nat} : ∀ {l : List D}, belows n l = true → mapO (frz f h n ks) l = some l
  | [], _ => rfl
  | d :: l, b => by
    obtain ⟨b1, b2⟩ := Bool.and_eq_true_iff.mp (show (below n d && belows n l) = true from b)
    show ((frz f h n ks d).bind fun a => (mapO (frz f h n ks) l).map fun r => a :: r) = _
    rw [frz_below b1, mapO_frz b2]
    rfl
theorem f_drop {n : Nat} {fb : En → AH → RS} {ds : List D} {h s : AH} {d : D} (e : fb (startE n ds) h = .ret d (h ++ s)) (b : below h.length d = true) : fnm sel0 n fb ds h = .ok d h := by
  unfold fnm
  rw [e]
  show gcR sel0 h (.ok d (h ++ s)) = _
  rw [gc_drop (gcOk_app (gcOk_refl h) s) (frz_below b), take_app]
theorem f_dropX {n : Nat} {fb : En → AH → RS} {ds : List D} {h s : AH} {c : Nat} {d : D} {en : En} (sl : Sel) (e : fb (startE n ds) h = .exc c d en (h ++ s)) (b : below h.length d = true) : fnm sl n fb ds h = .exc c d h := by
  unfold fnm
  rw [e]
  show gcR sl h (.exc c d (h ++ s)) = _
  rw [gc_exc (gcOk_app (gcOk_refl h) s) b, take_app]
theorem f_made {n : Nat} {fb : En → AH → RS} {ds : List D} {h : AH} {l : List D} (e : fb (startE n ds) h = .ret (.ref h.length) (h ++ [.vals l])) (b : belows h.length l = true) : fnm sel0 n fb ds h = .ok (.lst l) h := by
  have z : frz 6 (h ++ [.vals l]) h.length [] (.ref h.length) = some (.lst l) := by
    unfold frz
    rw [below_ref, if_neg (by simp)]
    simp only [posOf, get_end, mapO_frz b]
    rfl
  unfold fnm
  rw [e]
  show gcR sel0 h (.ok _ (h ++ [.vals l])) = _
  rw [gc_drop (gcOk_app (gcOk_refl h) _) z, take_app]
theorem f_kept {n : Nat} {fb : En → AH → RS} {ds : List D} {ns ns' : List Int} {r : AH} {l : List D} (e : fb (startE n ds) (hp ns r) = .ret (.ref (r.length + 1)) (hp ns' (r ++ [.vals l]))) (b : belows (r.length + 1) l = true) : fnm sel1 n fb ds (hp ns r) = .ok (.ref (r.length + 1)) (hp ns' (r ++ [.vals l])) := by
  have hl : (hp ns r).length = r.length + 1 := rfl
  have g : gcOk (hp ns r) (hp ns' (r ++ [.vals l])) := by
    have z := gcOk_set (k := 0) (c := .vals (ns'.map D.int)) (gcOk_app (gcOk_refl (hp ns r)) [.vals l]) (fun _ => by show belows _ _ = true; exact belows_map_int _ _)
    exact z
  have gt : (hp ns' (r ++ [.vals l]))[r.length + 1]? = some (.vals l) := by
    show (r ++ [Cell.vals l])[r.length]? = _
    exact get_end _ _
  have tk : (hp ns' (r ++ [.vals l])).take (r.length + 1) = hp ns' r := by
    show Cell.vals (ns'.map D.int) :: (r ++ [Cell.vals l]).take r.length = _
    rw [take_app]; rfl
  have s1 : sel1 (r.length + 1) (hp ns' (r ++ [.vals l])) (.ref (r.length + 1)) = [r.length + 1] := by
    show (if _ ≤ _ then _ else _) = _
    rw [if_pos (Nat.le_refl _)]
  have z : frz 6 (hp ns' (r ++ [.vals l])) (r.length + 1) [r.length + 1] (.ref (r.length + 1)) = some (.ref (r.length + 1)) := by
    unfold frz
    rw [below_ref, if_neg (by simp)]
    simp [posOf]
  have kc : keptC (hp ns' (r ++ [.vals l])) (r.length + 1) [r.length + 1] (r.length + 1) = some (.vals l) := by
    unfold keptC
    rw [gt]
    simp only [mapO_frz b]
    rfl
  unfold fnm
  rw [e]
  show gcR sel1 (hp ns r) (.ok (.ref (r.length + 1)) (hp ns' (r ++ [.vals l]))) = _
  have cond : gcOk (hp ns r) (hp ns' (r ++ [.vals l])) ∧ (∀ k ∈ [r.length + 1], r.length + 1 ≤ k ∧ k < (hp ns' (r ++ [.vals l])).length) ∧ [r.length + 1].Nodup := ⟨g, fun k hk => by rw [List.mem_singleton.mp hk]; exact ⟨Nat.le_refl _, by show _ < (r ++ [Cell.vals l]).length + 1; simp⟩, by simp⟩
  have cond2 : gcOk (hp ns r) (hp ns' (r ++ [.vals l])) ∧ (∀ k ∈ sel1 (hp ns r).length (hp ns' (r ++ [.vals l])) (.ref (r.length + 1)), (hp ns r).length ≤ k ∧ k < (hp ns' (r ++ [.vals l])).length) ∧ (sel1 (hp ns r).length (hp ns' (r ++ [.vals l])) (.ref (r.length + 1))).Nodup := by
    rw [hl, s1]; exact cond
  unfold gcR
  simp only [if_pos cond2]
  simp only [hl, s1, z, mapO, kc, tk]
  rfl
/-! ### rows -/
theorem asS_app {h : AH} {d : D} {l : List D} (s : AH) (e : asS h d = some l) : asS (h ++ s) d = some l := by
  cases d with
  | ref k =>
    have e : cellL h k = some l := e
    have q := cellL_eq e
    have hk : k < h.length := (List.getElem?_eq_some_iff.mp q).1
    show cellL (h ++ s) k = some l
    unfold cellL
    rw [List.getElem?_append_left hk, q]
  | _ => exact e
theorem len_of {h : AH} {d : D} {l : List D} (e : asS h d = some l) : bLen [d] h = .ok (.int (l.length : Nat)) h := by
  show (match asS h d with
    | some l => Res.ok (D.int (l.length : Nat)) h
    | none => .stuck) = _
  rw [e]
def handD (i : Nat) (q : Rat) : D := if q.den = 1 ∧ i % 2 = 1 then .int q.num else .lst [.int (3 * q.num), .int (3 * (q.den : Int))]
def hands : Nat → List Rat → List D
  | _, [] => []
  | i, q :: l => handD i q :: hands (i + 1) l
theorem hands_len : ∀ (i : Nat) (l : List Rat), (hands i l).length = l.length
  | _, [] => rfl
  | i, q :: l => by show (hands (i + 1) l).length + 1 = l.length + 1; rw [hands_len (i + 1) l]
theorem hands_get : ∀ (i : Nat) (l : List Rat) (j : Nat), (hands i l)[j]? = (l[j]?).map (handD (i + j))
  | _, [], j => by simp [hands]
  | i, q :: l, 0 => by simp [hands]
  | i, q :: l, j + 1 => by
    show (hands (i + 1) l)[j]? = _
    rw [hands_get (i + 1) l j, List.getElem?_cons_succ, show i + 1 + j = i + (j + 1) by omega]
theorem hands_take (l : List Rat) (k : Nat) (q : Rat) (e : l[k]? = some q) : hands 0 (l.take (k + 1)) = hands 0 (l.take k) ++ [handD k q] := by
  apply List.ext_getElem?
  intro j
  have hk : k < l.length := (List.getElem?_eq_some_iff.mp e).1
  have hl : (hands 0 (l.take k)).length = k := by rw [hands_len, List.length_take]; omega
  rw [hands_get, List.getElem?_take]
  by_cases c : j < k
  · rw [if_pos (by omega), List.getElem?_append_left (by rw [hl]; exact c), hands_get, List.getElem?_take, if_pos c]
  · by_cases c2 : j = k
    · subst c2
      rw [if_pos (by omega), List.getElem?_append_right (by rw [hl]; omega), hl, Nat.sub_self, e]
      simp
    · rw [if_neg (by omega), List.getElem?_append_right (by rw [hl]; omega), hl, List.getElem?_eq_none (by simp; omega)]
      rfl
theorem below_handD (m i : Nat) (q : Rat) : below m (handD i q) = true := by unfold handD; split <;> rfl
theorem below_hands (m : Nat) : ∀ (i : Nat) (l : List Rat), belows m (hands i l) = true
  | _, [] => rfl
  | i, q :: l => by show (below m (handD i q) && belows m (hands (i + 1) l)) = true; rw [below_handD, below_hands m (i + 1) l]; rfl
theorem frac_hand (i : Nat) (q : Rat) : frac (handD i q) = some q := by
  unfold handD
  split
  · rename_i c
    show some ((q.num : Int) : Rat) = some q
    congr 1
    apply Rat.ext
    · rfl
    · exact c.1.symm
  · show fracL [.int (3 * q.num), .int (3 * (q.den : Int))] = some q
    have := q.den_nz
    rw [fracL_ii, if_pos (by omega), Rat.divInt_mul_left (by omega : (3 : Int) ≠ 0), Rat.num_divInt_den]
theorem fine_hand {n : Nat} {q : Rat} (i : Nat) (h : Qz n q) : fine (2 + n) (handD i q) := by
  have t : Sz 2 (3 : Int) := by unfold Sz; decide
  unfold handD
  split
  · exact True.intro
  · exact ⟨t.mul h.1, t.mul h.2⟩
end Sh
/-! Plain laws, part 9: hand, prizes' entries. -/
namespace Sh
open PySem Cb
open scoped Rat

theorem forS_cons {src : List (Nat × List D)} (g : D → En → Option En) (b : En → AH → RS) (d : D) (l : List D) (en en' : En) (h : AH) (o : okS src h = true) (e : g d en = some en') : forL src g b (d :: l) en h = (match b en' h with
      | .nx en2 h2 => forL src g b l en2 h2
      | .cont en2 h2 => forL src g b l en2 h2
      | .brk en2 h2 => .nx en2 h2
      | r => r) := by
  conv => lhs; unfold forL
  simp only [o, cond_true, e]
  all_goals (cases b en' h <;> rfl)
/-- a loop that may end early; what is walked stays -/
theorem forS_or {src : List (Nat × List D)} {g : D → En → Option En} {b : En → AH → RS} (P : Nat → En → AH → Prop) (Q : RS → Prop) (o : ∀ k en h, P k en h → okS src h = true) : ∀ (l : List D) (k : Nat) (en : En) (h : AH), P k en h →
    (∀ i (hi : i < l.length) en h, P (k + i) en h → ∃ en1, g l[i] en = some en1 ∧ ((∃ en2 h2, (b en1 h = .nx en2 h2 ∨ b en1 h = .cont en2 h2) ∧ P (k + i + 1) en2 h2) ∨ ((∃ d h2, b en1 h = .ret d h2 ∧ Q (.ret d h2)) ∨ ∃ c d en2 h2, b en1 h = .exc c d en2 h2 ∧ Q (.exc c d en2 h2)))) →
    (∃ en' h', forL src g b l en h = .nx en' h' ∧ P (k + l.length) en' h') ∨ Q (forL src g b l en h)
  | [], k, en, h, p, _ => .inl ⟨en, h, by unfold forL; rw [o _ _ _ p]; rfl, by simpa using p⟩
  | d :: l, k, en, h, p, s => by
    obtain ⟨en1, e1, z⟩ := s 0 (by simp) en h (by simpa using p)
    rw [forS_cons g b d l en en1 h (o _ _ _ p) (by simpa using e1)]
    rcases z with ⟨en2, h2, e2, p2⟩ | ⟨x, h2, e2, q2⟩ | ⟨c, x, en2, h2, e2, q2⟩
    · rw [List.length_cons, show k + (l.length + 1) = k + 1 + l.length by omega]
      have ih := forS_or P Q o l (k + 1) en2 h2 (by simpa using p2) fun i hi en h q => by
        obtain ⟨a, ea, z⟩ := s (i + 1) (by simp; omega) en h (by rw [show k + (i + 1) = k + 1 + i by omega]; exact q)
        rw [show k + (i + 1) + 1 = k + 1 + i + 1 by omega] at z
        exact ⟨a, by simpa using ea, z⟩
      rcases e2 with e2 | e2 <;> (rw [e2]; exact ih)
    · rw [e2]; exact .inr q2
    · rw [e2]; exact .inr q2
theorem wk_of {h : AH} {d : D} {l : List D} (e : asS h d = some l) : ∃ src, ∀ s, wkL d (h ++ s) = .ok ⟨l, src⟩ (h ++ s) ∧ okS src (h ++ s) = true := by
  have ha := fun s => asS_app s e
  cases d with
  | ref k =>
    have c : ∀ s, cellL (h ++ s) k = some l := ha
    refine ⟨[(k, l)], fun s => ⟨?_, okS_one (c s)⟩⟩
    show (match cellL (h ++ s) k with
      | some l => Res.ok (⟨l, [(k, l)]⟩ : Wk) (h ++ s)
      | none => .stuck) = _
    rw [c s]
  | _ => cases e <;> exact ⟨[], fun s => ⟨rfl, rfl⟩⟩
abbrev bhand : En → AH → RS := seq (sSet 3 (bin ixD (var 0) (var 2)))
  (sIf (tand (tcm dEq (bin ixD (var 3) (cI 1)) (cI 1)) (tcm dEq (bin dMod (dsp bInt (acons (var 2) anil)) (cI 2)) (cI 1))) (sExpr (met1 oApp (var 1) (bin ixD (var 3) (cI 0)))) (sExpr (met1 oApp (var 1) (dsp mkF (acons (bin dMul (cI 3) (bin ixD (var 3) (cI 0))) (acons (bin dMul (cI 3) (bin ixD (var 3) (cI 1))) anil))))))
theorem three_z : Sz 2 (3 : Int) := by unfold Sz; decide
theorem hand_step {n : Nat} (hn : n ≤ 4000) {h : AH} {d : D} {qs : List Rat} {l : List D} {k : Nat} {q : Rat} (e : asS h d = some (qs.map fr)) (g : qs[k]? = some q) (hq : Qz n q) (hl : l.length < 16777216) (y : Option D) :
    bhand [some d, some (.ref h.length), some (.int (k : Int)), y] (h ++ [.vals l]) = .nx [some d, some (.ref h.length), some (.int (k : Int)), some (fr q)] (h ++ [.vals (l ++ [handD k q])]) := by
  have e1 := asS_app [.vals l] e
  have i1 : bin ixD (var 0) (var 2) [some d, some (.ref h.length), some (.int (k : Int)), y] (h ++ [.vals l]) = .ok (fr q) (h ++ [.vals l]) := by
    rw [bin2 (d := d) (e := .int (k : Int)) rfl rfl]
    exact ix_nat _ e1 (by rw [List.getElem?_map, g]; rfl)
  refine (seq1 (set1 i1)).trans ?_
  show sIf _ _ _ [some d, some (.ref h.length), some (.int (k : Int)), some (fr q)] (h ++ [.vals l]) = _
  have c1 : tcm dEq (bin ixD (var 3) (cI 1)) (cI 1) [some d, some (.ref h.length), some (.int (k : Int)), some (fr q)] (h ++ [.vals l]) = .ok (decide ((q.den : Int) = 1)) (h ++ [.vals l]) := by
    rw [a_tcm, bin2 (d := .int (q.den : Int)) (e := .int 1) rfl rfl, o_eqi]; rfl
  have c2 : tcm dEq (bin dMod (dsp bInt (acons (var 2) anil)) (cI 2)) (cI 1) [some d, some (.ref h.length), some (.int (k : Int)), some (fr q)] (h ++ [.vals l]) = .ok (decide ((k : Int) % 2 = 1)) (h ++ [.vals l]) := by
    rw [a_tcm, bin2 (d := .int ((k : Int) % 2)) (e := .int 1) (by rw [bin2 (d := .int (k : Int)) (e := .int 2) rfl rfl, o_mod (by omega)]) rfl, o_eqi]; rfl
  have c3 : tand (tcm dEq (bin ixD (var 3) (cI 1)) (cI 1)) (tcm dEq (bin dMod (dsp bInt (acons (var 2) anil)) (cI 2)) (cI 1)) [some d, some (.ref h.length), some (.int (k : Int)), some (fr q)] (h ++ [.vals l]) = .ok (decide (q.den = 1 ∧ k % 2 = 1)) (h ++ [.vals l]) := by
    rw [a_tand, c1, bind_ok, c2]
    by_cases a1 : q.den = 1
    · rw [decide_eq_true (by omega : (q.den : Int) = 1), cond_true]
      by_cases a2 : k % 2 = 1
      · rw [decide_eq_true (by omega : (k : Int) % 2 = 1), decide_eq_true ⟨a1, a2⟩]
      · rw [decide_eq_false (by omega : ¬ (k : Int) % 2 = 1), decide_eq_false (fun z => a2 z.2)]
    · rw [decide_eq_false (by omega : ¬ (q.den : Int) = 1), cond_false, decide_eq_false (fun z => a1 z.1)]
  unfold handD
  by_cases c : q.den = 1 ∧ k % 2 = 1
  · rw [decide_eq_true c] at c3
    rw [if1 c3, if_pos c]
    rw [expr1 (a_app (k := h.length) (l0 := l) (l := l) (d := .int q.num) (h2 := h ++ [.vals l]) rfl (cell_end _ _) rfl (cell_end _ _) hl), set_end]
  · rw [decide_eq_false c] at c3
    rw [if0 c3, if_neg c]
    have m : dsp mkF (acons (bin dMul (cI 3) (bin ixD (var 3) (cI 0))) (acons (bin dMul (cI 3) (bin ixD (var 3) (cI 1))) anil)) [some d, some (.ref h.length), some (.int (k : Int)), some (fr q)] (h ++ [.vals l]) = .ok (.lst [.int (3 * q.num), .int (3 * (q.den : Int))]) (h ++ [.vals l]) := by
      rw [dsp2 (d := .int (3 * q.num)) (e := .int (3 * (q.den : Int))) (by rw [bin2 (d := .int 3) (e := .int q.num) rfl rfl, o_mul three_z hq.1 _ (by omega)]) (by rw [bin2 (d := .int 3) (e := .int (q.den : Int)) rfl rfl, o_mul three_z hq.2 _ (by omega)]), mkF_2]
    rw [expr1 (a_app (k := h.length) (l0 := l) (l := l) (h2 := h ++ [.vals l]) rfl (cell_end _ _) m (cell_end _ _) hl), set_end]
theorem hand_eq {n : Nat} (hn : n ≤ 4000) {h : AH} {d : D} {qs : List Rat} (e : asS h d = some (qs.map fr)) (hz : ∀ q ∈ qs, Qz n q) (hl : qs.length ≤ 1000) : Fx_law_hand [d] h = .ok (.lst (hands 0 qs)) h := by
  refine f_made (n := 4) (fb := mx_law_hand) ?_ (below_hands _ _ _)
  obtain ⟨en', h', e', ⟨x, y, rfl⟩, rfl⟩ := for_rng (n := qs.length) (j := 2) (b := bhand) (fun k en h' => (∃ x y, en = [some d, some (.ref h.length), x, y]) ∧ h' = h ++ [.vals (hands 0 (qs.take k))]) (en := [some d, some (.ref h.length), none, none]) (h := h ++ [.vals []]) ⟨⟨none, none, rfl⟩, rfl⟩ (by
    rintro k hk en h' ⟨⟨x, y, rfl⟩, rfl⟩
    have g : qs[k]? = some qs[k] := List.getElem?_eq_getElem hk
    refine ⟨_, _, .inl (hand_step hn e g (hz _ (List.getElem_mem hk)) (by rw [hands_len, List.length_take]; omega) y), ⟨_, _, rfl⟩, ?_⟩
    rw [hands_take _ _ _ g])
  rw [List.take_length] at e'
  have h2 : startE 4 [d] = [some d, none, none, none] := rfl
  have m0 : dsp mkC anil [some d, none, none, none] h = .ok (.ref h.length) (h ++ [.vals []]) := rfl
  have hw : wkR1 (dsp bLen (acons (var 0) anil)) [some d, some (.ref h.length), none, none] (h ++ [.vals []]) = .ok ⟨rngI 0 1 qs.length, []⟩ (h ++ [.vals []]) := w_rng1 (by rw [dsp1 (d := d) rfl, len_of (asS_app _ e), List.length_map]) (by omega)
  unfold mx_law_hand
  rw [h2, seq1 (set1 m0), a_seq, a_for]
  show ((wkR1 (dsp bLen (acons (var 0) anil)) [some d, some (.ref h.length), none, none] (h ++ [.vals []])).bindS _ _).seq _ = _
  rw [hw, bindS_ok]
  show (forL [] (gN 2) bhand (rngI 0 1 qs.length) [some d, some (.ref h.length), none, none] (h ++ [.vals []])).seq _ = _
  rw [e', seq_nx]
  rfl

/-! ### the entries of a prize -/
noncomputable abbrev bent : En → AH → RS := sTryFrom 1 2 (sExpr (met1 oApp (var 1) (cal [] 2 Ffraction_of (acons (var 3) (acons (cS "prize") anil))))) (var 2)
theorem ent_ok {n : Nat} (hn : n ≤ 9000) {h : AH} {d x : D} {q : Rat} {l : List D} {k : Nat} (f : fine n x) (e : frac x = some q) (hl : l.length < 16777216) :
    bent [some d, some (.ref h.length), some (.int (k : Int)), some x] (h ++ [.vals l]) = .nx [some d, some (.ref h.length), some (.int (k : Int)), some x] (h ++ [.vals (l ++ [fr q])]) := by
  have c : cal [] 2 Ffraction_of (acons (var 3) (acons (cS "prize") anil)) [some d, some (.ref h.length), some (.int (k : Int)), some x] (h ++ [.vals l]) = .ok (fr q) (h ++ [.vals l]) := by
    rw [cal2 (d := x) (e := .str "prize") rfl rfl, fraction_eq hn f, e]
  have z := expr1 (a_app (fa := var 1) (k := h.length) (l0 := l) (l := l) (h2 := h ++ [.vals l]) (en := [some d, some (.ref h.length), some (.int (k : Int)), some x]) (h := h ++ [.vals l]) rfl (cell_end _ _) c (cell_end _ _) hl)
  rw [set_end] at z
  unfold bent sTryFrom
  rw [z]
theorem ent_bad {n : Nat} (hn : n ≤ 9000) {h : AH} {d x : D} {l : List D} {k : Nat} (f : fine n x) (e : frac x = none) :
    bent [some d, some (.ref h.length), some (.int (k : Int)), some x] (h ++ [.vals l]) = .exc 2 (.int (k : Int)) [some d, some (.ref h.length), some (.int (k : Int)), some x] (h ++ [.vals l]) := by
  have c : cal [] 2 Ffraction_of (acons (var 3) (acons (cS "prize") anil)) [some d, some (.ref h.length), some (.int (k : Int)), some x] (h ++ [.vals l]) = .exc 1 (.str "prize") (h ++ [.vals l]) := by
    rw [cal2 (d := x) (e := .str "prize") rfl rfl, fraction_eq hn f, e]
  have z : sExpr (met1 oApp (var 1) (cal [] 2 Ffraction_of (acons (var 3) (acons (cS "prize") anil)))) [some d, some (.ref h.length), some (.int (k : Int)), some x] (h ++ [.vals l]) = .exc 1 (.str "prize") [some d, some (.ref h.length), some (.int (k : Int)), some x] (h ++ [.vals l]) := by
    rw [a_expr]
    unfold met1
    rw [var_s, var_z, bind_ok]
    simp only [cell_end, c, bind_exc, bindS_exc]
  unfold bent sTryFrom
  rw [z]
  rfl
theorem fr_take {qs : List Rat} {k : Nat} {q : Rat} (e : qs[k]? = some q) : (qs.take (k + 1)).map fr = (qs.take k).map fr ++ [fr q] := by
  rw [List.take_add_one, e, List.map_append]
  rfl
theorem below_frs (m : Nat) (qs : List Rat) : belows m (qs.map fr) = true := by
  apply belows_iff.mpr
  intro d hd
  obtain ⟨i, _, rfl⟩ := List.mem_map.mp hd
  rfl
theorem numd_at (l : List D) (i : Nat) (hi : i < (numd 0 l).length) (x : D) (e : l[i]? = some x) : (numd 0 l)[i] = .tup [.int (i : Int), x] := by
  have z := numd_get l 0 i
  rw [List.getElem?_eq_getElem hi, e] at z
  have z := Option.some.inj z
  rw [z, Nat.zero_add]
theorem ents_run {n : Nat} (hn : n ≤ 9000) {h : AH} {d : D} {l : List D} {qs : List Rat} (e : asS h d = some l) (f : ∀ x ∈ l, fine n x) (hl : l.length ≤ 1000) (hq : ∀ (k : Nat) q, qs[k]? = some q → (l[k]?).bind frac = some q) (hb : qs.length < l.length → (l[qs.length]?).bind frac = none) (hle : qs.length ≤ l.length) :
    Fx_prizes_entries [d] h = (if qs.length < l.length then .exc 2 (.int (qs.length : Int)) h else .ok (.tup (qs.map fr)) h) := by
  obtain ⟨src, hs⟩ := wk_of e
  have loop := forS_or (src := src) (g := gT 2 (gs1 (gN 2) (gs1 (gN 3) gs0))) (b := bent) (fun k en h' => k ≤ qs.length ∧ (∃ x y, en = [some d, some (.ref h.length), x, y]) ∧ h' = h ++ [.vals ((qs.take k).map fr)]) (fun r => qs.length < l.length ∧ ∃ en s, r = .exc 2 (.int (qs.length : Int)) en (h ++ s)) (by
      rintro k en h' ⟨_, _, rfl⟩
      exact (hs _).2) (numd 0 l) 0 [some d, some (.ref h.length), none, none] (h ++ [.vals []]) ⟨Nat.zero_le _, ⟨none, none, rfl⟩, rfl⟩ (by
      rintro k hk en h' ⟨hk2, ⟨x, y, rfl⟩, rfl⟩
      rw [numd_length] at hk
      have gx : l[k]? = some l[k] := List.getElem?_eq_getElem hk
      rw [Nat.zero_add] at hk2 ⊢
      rw [numd_at l k (by rw [numd_length]; exact hk) _ gx]
      refine ⟨_, rfl, ?_⟩
      by_cases c : k < qs.length
      · left
        have gq : qs[k]? = some qs[k] := List.getElem?_eq_getElem c
        have fx := hq k _ gq
        rw [gx] at fx
        refine ⟨_, _, .inl (ent_ok hn (f _ (List.getElem_mem hk)) fx (by rw [List.length_map, List.length_take]; omega)), c, ⟨_, _, rfl⟩, ?_⟩
        rw [← fr_take gq]
      · have hk3 : k = qs.length := by omega
        subst hk3
        have fx := hb hk
        rw [gx] at fx
        exact .inr (.inr ⟨_, _, _, _, ent_bad hn (f _ (List.getElem_mem hk)) fx, hk, _, _, rfl⟩))
  have h2 : startE 4 [d] = [some d, none, none, none] := rfl
  have m0 : dsp mkC anil [some d, none, none, none] h = .ok (.ref h.length) (h ++ [.vals []]) := rfl
  have hw : wEn (var 0) [some d, some (.ref h.length), none, none] (h ++ [.vals []]) = .ok ⟨numd 0 l, src⟩ (h ++ [.vals []]) := by
    show (var 0 [some d, some (.ref h.length), none, none] (h ++ [.vals []])).bind wkE = _
    rw [var_z, bind_ok]
    unfold wkE
    rw [(hs _).1]
    rfl
  have start : mx_prizes_entries (startE 4 [d]) h = (forL src (gT 2 (gs1 (gN 2) (gs1 (gN 3) gs0))) bent (numd 0 l) [some d, some (.ref h.length), none, none] (h ++ [.vals []])).seq (sRet (dsp bTup (acons (var 1) anil))) := by
    unfold mx_prizes_entries
    rw [h2]
    refine (seq1 (set1 m0)).trans ?_
    rw [a_seq, a_for]
    show ((wEn (var 0) [some d, some (.ref h.length), none, none] (h ++ [.vals []])).bindS _ _).seq _ = _
    rw [hw, bindS_ok]
    rfl
  rcases loop with ⟨en', h', e', hk, ⟨x, y, rfl⟩, rfl⟩ | ⟨c, en, s, e'⟩
  · rw [numd_length, Nat.zero_add] at hk
    have hk2 : l.length = qs.length := by omega
    rw [if_neg (by omega)]
    rw [numd_length, Nat.zero_add, hk2, List.take_length] at e'
    refine f_drop (n := 4) (fb := mx_prizes_entries) (s := [.vals (qs.map fr)]) ?_ (below_frs _ _)
    rw [start, e', seq_nx]
    refine ret1 ?_
    rw [dsp1 (d := .ref h.length) rfl, a_bTupR (cell_end _ _), mkT_le (by rw [List.length_map]; omega)]
  · rw [if_pos c]
    refine f_dropX (n := 4) (fb := mx_prizes_entries) (s := s) (en := en) sel0 ?_ rfl
    rw [start, e', seq_exc]
end Sh
/-! Plain laws, part 10: prize_of, amounts_of, by_number, prize_sum. -/
namespace Sh
open PySem Cb
open scoped Rat

theorem tst_ok {f : En → AH → Res D} {en : En} {h h1 : AH} {b : Bool} (e : f en h = .ok (.bl b) h1) : tst f en h = .ok b h1 := by rw [a_tst, e, bind_ok]; rfl
theorem tnot_ok {g : En → AH → Res Bool} {en : En} {h h1 : AH} {b : Bool} (e : g en h = .ok b h1) : tnot g en h = .ok (!b) h1 := by rw [a_tnot, e, bind_ok]
theorem tor_t {g k : En → AH → Res Bool} {en : En} {h h1 : AH} (e : g en h = .ok true h1) : tor g k en h = .ok true h1 := by rw [a_tor, e, bind_ok, cond_true]
theorem tor_f {g k : En → AH → Res Bool} {en : En} {h h1 : AH} (e : g en h = .ok false h1) : tor g k en h = k en h1 := by rw [a_tor, e, bind_ok, cond_false]
theorem tcm_ok {o : D → D → AH → Res D} {f g : En → AH → Res D} {en : En} {h h1 : AH} {b : Bool} (e : bin o f g en h = .ok (.bl b) h1) : tcm o f g en h = .ok b h1 := by rw [a_tcm, e, bind_ok]; rfl
theorem skip_nx (en : En) (h : AH) : skip en h = .nx en h := rfl
theorem asL_ty {h : AH} {d : D} {l : List D} (e : asS h d = some l) (hd : ∀ l, d ≠ .fix l) : isi2 .tup .lst d h = .ok (.bl true) h := by
  cases d with
  | ref k =>
    have e : cellL h k = some l := e
    have q := cellL_eq e
    have : tyD h (.ref k) = some .lst := by
      show tyC h[k]? = some .lst
      rw [q]; rfl
    unfold isi2
    rw [this]
    rfl
  | tup l => rfl
  | lst l => rfl
  | fix l => exact absurd rfl (hd l)
  | _ => cases e
theorem stop_ok {n : Nat} (h1 : 2 ≤ n) (h2 : n ≤ 6) (h : AH) : Fstop_size [.int (n : Int)] h = .ok .non h := by
  have e1 : decide ((2 : Int) ≤ (n : Int)) = true := decide_eq_true (by omega)
  have e2 : decide ((n : Int) ≤ 6) = true := decide_eq_true (by omega)
  refine f_nx (n := 1) (fb := mstop_size) (en := [some (.int (n : Int))]) ?_
  unfold mstop_size tch
  simp [startE, List.replicate, whole_eq (tame_int h n), e1, e2, skip, asB]
/-- the sizes that are refused -/
theorem stop_bad {d : D} (hd : d = .int 1 ∨ d = .int 7 ∨ d = .bl true ∨ d = .non) (h : AH) : Fstop_size [d] h = .exc 0 (.str "size") h := by
  refine f_exc (n := 1) (fb := mstop_size) (en := [some d]) sel0 ?_ rfl
  unfold mstop_size tch
  rcases hd with rfl | rfl | rfl | rfl
  · simp [startE, List.replicate, whole_eq (tame_int h _), asB]
  · simp [startE, List.replicate, whole_eq (tame_int h _), asB]
  · simp [startE, List.replicate, whole_eq (tame_bl h _), asB]
  · simp [startE, List.replicate, whole_eq (tame_non h), asB]
theorem two_pow_shl {n : Nat} (hn : n ≤ 20) (h : AH) : dShl (.int 1) (.int (n : Int)) h = .ok (.int ((2 ^ n : Nat) : Int)) h := by
  rw [o_shl (by omega) (by decide)]
  congr 2
  simp [Int.natCast_pow]
theorem prize_size_bad {d v : D} (hd : d = .int 1 ∨ d = .int 7 ∨ d = .bl true ∨ d = .non) (h : AH) : Fprize_of [v, d] h = .exc 0 (.str "size") h := by
  refine f_exc (n := 2) (fb := mprize_of) (en := [some v, some d]) sel0 ?_ rfl
  have z : sExpr (cal [] 1 Fstop_size (acons (var 1) anil)) [some v, some d] h = .exc 0 (.str "size") [some v, some d] h := by
    rw [a_expr, cal1 (d := d) rfl, stop_bad hd, bindS_exc]
  unfold mprize_of
  show seq _ _ [some v, some d] h = _
  rw [a_seq, z, seq_exc]
theorem prize_head {n : Nat} (h1 : 2 ≤ n) (h2 : n ≤ 6) {v : D} {l : List D} {h : AH} (e : asS h v = some l) (hv : ∀ l, v ≠ .fix l) : mprize_of (startE 2 [v, .int (n : Int)]) h = (if l.length = 2 ^ n then sRet (cal [] 1 Fx_prizes_entries (acons (var 0) anil)) [some v, some (.int (n : Int))] h else .exc 2 (.int (-1)) [some v, some (.int (n : Int))] h) := by
  have z : sExpr (cal [] 1 Fstop_size (acons (var 1) anil)) [some v, some (.int (n : Int))] h = .nx [some v, some (.int (n : Int))] h := by
    refine expr1 (d := .non) ?_
    rw [cal1 (d := .int (n : Int)) rfl, stop_ok h1 h2]
  have c1 : tnot (tst (una (isi2 .tup .lst) (var 0))) [some v, some (.int (n : Int))] h = .ok false h := tnot_ok (b := true) (tst_ok (by rw [a_una, var_z, bind_ok, asL_ty e hv]))
  have c2 : tcm dNe (dsp bLen (acons (var 0) anil)) (bin dShl (cI 1) (var 1)) [some v, some (.int (n : Int))] h = .ok (!decide ((l.length : Int) = ((2 ^ n : Nat) : Int))) h := tcm_ok (by
    rw [bin2 (d := .int (l.length : Nat)) (e := .int ((2 ^ n : Nat) : Int)) (h1 := h) (h2 := h) (by rw [dsp1 (d := v) rfl, len_of e]) (by rw [bin2 (d := .int 1) (e := .int (n : Int)) rfl rfl, two_pow_shl (by omega)]), o_nei])
  unfold mprize_of
  show seq _ _ [some v, some (.int (n : Int))] h = _
  rw [seq1 z]
  by_cases c : l.length = 2 ^ n
  · rw [if_pos c]
    rw [decide_eq_true (by rw [c])] at c2
    rw [a_seq, if0 ((tor_f c1).trans c2), skip_nx, seq_nx]
  · rw [if_neg c]
    rw [decide_eq_false (by intro q; exact c (Int.ofNat.inj q))] at c2
    rw [a_seq, if1 ((tor_f c1).trans c2)]
    rfl
theorem prize_len_bad {n : Nat} (h1 : 2 ≤ n) (h2 : n ≤ 6) {v : D} {l : List D} {h : AH} (e : asS h v = some l) (hv : ∀ l, v ≠ .fix l) (hl : l.length ≠ 2 ^ n) : Fprize_of [v, .int (n : Int)] h = .exc 2 (.int (-1)) h := by
  refine f_exc (n := 2) (fb := mprize_of) (en := [some v, some (.int (n : Int))]) sel0 ?_ rfl
  rw [prize_head h1 h2 e hv, if_neg hl]
theorem prize_run {n m : Nat} (hm : m ≤ 9000) (h1 : 2 ≤ n) (h2 : n ≤ 6) {v : D} {l : List D} {qs : List Rat} {h : AH} (e : asS h v = some l) (hv : ∀ l, v ≠ .fix l) (hl : l.length = 2 ^ n) (f : ∀ x ∈ l, fine m x) (hq : ∀ (k : Nat) q, qs[k]? = some q → (l[k]?).bind frac = some q) (hb : qs.length < l.length → (l[qs.length]?).bind frac = none) (hle : qs.length ≤ l.length) :
    Fprize_of [v, .int (n : Int)] h = (if qs.length < l.length then .exc 2 (.int (qs.length : Int)) h else .ok (.tup (qs.map fr)) h) := by
  have pw : 2 ^ n ≤ 2 ^ 6 := Nat.pow_le_pow_right (by omega) h2
  have r := ents_run hm e f (by omega) hq hb hle
  have c : cal [] 1 Fx_prizes_entries (acons (var 0) anil) [some v, some (.int (n : Int))] h = (if qs.length < l.length then .exc 2 (.int (qs.length : Int)) h else .ok (.tup (qs.map fr)) h) := by rw [cal1 (d := v) rfl, r]
  by_cases c1 : qs.length < l.length
  · rw [if_pos c1] at c ⊢
    refine f_exc (n := 2) (fb := mprize_of) (en := [some v, some (.int (n : Int))]) sel0 ?_ rfl
    rw [prize_head h1 h2 e hv, if_pos hl, a_ret, c, bindS_exc]
  · rw [if_neg c1] at c ⊢
    refine f_ret (n := 2) (fb := mprize_of) ?_ (below_frs _ _)
    rw [prize_head h1 h2 e hv, if_pos hl, ret1 c]
/-- the hand of a row of fractions -/
theorem hand_at {qs : List Rat} (k : Nat) (q : Rat) (e : qs[k]? = some q) : ((hands 0 qs)[k]?).bind frac = some q := by
  rw [hands_get, e]
  exact frac_hand _ _
theorem fine_hands {n : Nat} : ∀ (i : Nat) {qs : List Rat}, (∀ q ∈ qs, Qz n q) → ∀ x ∈ hands i qs, fine (2 + n) x
  | _, [], _, _, hx => nomatch hx
  | i, q :: l, hz, x, hx => by
    rcases List.mem_cons.mp hx with rfl | hx
    · exact fine_hand i (hz q (by simp))
    · exact fine_hands (i + 1) (fun q hq => hz q (by simp [hq])) x hx
theorem frac_frs {qs : List Rat} (k : Nat) (q : Rat) (e : qs[k]? = some q) : ((qs.map fr)[k]?).bind frac = some q := by
  rw [List.getElem?_map, e]
  exact frac_fr q
theorem prize_hand {n m : Nat} (hm : m ≤ 4000) (h1 : 2 ≤ n) (h2 : n ≤ 6) {qs : List Rat} (h : AH) (hl : qs.length = 2 ^ n) (hz : ∀ q ∈ qs, Qz m q) : Fprize_of [.lst (hands 0 qs), .int (n : Int)] h = .ok (.tup (qs.map fr)) h := by
  have z := prize_run (m := 2 + m) (by omega) h1 h2 (v := .lst (hands 0 qs)) (l := hands 0 qs) (qs := qs) (h := h) rfl (by intro l c; cases c) (by rw [hands_len, hl]) (fine_hands 0 hz) (fun k q e => hand_at k q e) (by rw [hands_len]; omega) (by rw [hands_len]; omega)
  rw [z, if_neg (by rw [hands_len]; omega)]
theorem fine_frs {n : Nat} {qs : List Rat} (hz : ∀ q ∈ qs, Qz n q) : ∀ x ∈ qs.map fr, fine n x := by
  intro x hx
  obtain ⟨q, hq, rfl⟩ := List.mem_map.mp hx
  exact fine_fr (hz q hq)
theorem prize_tup {n m : Nat} (hm : m ≤ 4000) (h1 : 2 ≤ n) (h2 : n ≤ 6) {qs : List Rat} (h : AH) (hl : qs.length = 2 ^ n) (hz : ∀ q ∈ qs, Qz m q) : Fprize_of [.tup (qs.map fr), .int (n : Int)] h = .ok (.tup (qs.map fr)) h := by
  have z := prize_run (m := m) (by omega) h1 h2 (v := .tup (qs.map fr)) (l := qs.map fr) (qs := qs) (h := h) rfl (by intro l c; cases c) (by rw [List.length_map, hl]) (fine_frs hz) (fun k q e => frac_frs k q e) (by rw [List.length_map]; omega) (by rw [List.length_map]; omega)
  rw [z, if_neg (by rw [List.length_map]; omega)]
end Sh
/-! Plain laws, part 11: amounts, by_number, prize_sum. -/
namespace Sh
open PySem Cb
open scoped Rat

theorem tch_ok {o o2 : D → D → AH → Res D} {f g k : En → AH → Res D} {en : En} {h : AH} {x y z : D} {b1 b2 : Bool} (e1 : f en h = .ok x h) (e2 : g en h = .ok y h) (e3 : k en h = .ok z h) (c1 : o x y h = .ok (.bl b1) h) (c2 : o2 y z h = .ok (.bl b2) h) : tch o o2 f g k en h = .ok (b1 && b2) h := by
  show ((chn o o2 f g k) en h).bind asB = _
  rw [a_chn, e1, bind_ok, e2, bind_ok, c1, bind_ok]
  cases b1 with
  | false => rfl
  | true =>
    show ((k en h).bind fun u h4 => o2 y u h4).bind asB = _
    rw [e3, bind_ok, c2, bind_ok]
    rfl
theorem amounts_head {v : D} {l : List D} {h : AH} (e : asS h v = some l) (hv : ∀ l, v ≠ .fix l) : mamounts_of (startE 1 [v]) h = (if 3 ≤ l.length ∧ l.length ≤ 7 then sRet (cal [] 1 Fx_prizes_entries (acons (var 0) anil)) [some v] h else .exc 2 (.int (-1)) [some v] h) := by
  have c1 : tnot (tst (una (isi2 .tup .lst) (var 0))) [some v] h = .ok false h := tnot_ok (b := true) (tst_ok (by rw [a_una, var_z, bind_ok, asL_ty e hv]))
  have c2 : tnot (tch dLe dLe (cI 3) (dsp bLen (acons (var 0) anil)) (cI 7)) [some v] h = .ok (!(decide ((3 : Int) ≤ (l.length : Int)) && decide ((l.length : Int) ≤ 7))) h := tnot_ok (tch_ok (x := .int 3) (y := .int (l.length : Nat)) (z := .int 7) rfl (by rw [dsp1 (d := v) rfl, len_of e]) rfl (o_le _ _ _) (o_le _ _ _))
  unfold mamounts_of
  show seq _ _ [some v] h = _
  by_cases c : 3 ≤ l.length ∧ l.length ≤ 7
  · rw [if_pos c]
    rw [decide_eq_true (by omega : (3 : Int) ≤ (l.length : Int)), decide_eq_true (by omega : (l.length : Int) ≤ 7)] at c2
    rw [a_seq, if0 ((tor_f c1).trans c2), skip_nx, seq_nx]
  · rw [if_neg c]
    have : (decide ((3 : Int) ≤ (l.length : Int)) && decide ((l.length : Int) ≤ 7)) = false := by
      rw [Bool.and_eq_false_iff, decide_eq_false_iff_not, decide_eq_false_iff_not]; omega
    rw [this] at c2
    rw [a_seq, if1 ((tor_f c1).trans c2)]
    rfl
theorem amounts_len_bad {v : D} {l : List D} {h : AH} (e : asS h v = some l) (hv : ∀ l, v ≠ .fix l) (hl : ¬ (3 ≤ l.length ∧ l.length ≤ 7)) : Famounts_of [v] h = .exc 2 (.int (-1)) h := by
  refine f_exc (n := 1) (fb := mamounts_of) (en := [some v]) sel0 ?_ rfl
  rw [amounts_head e hv, if_neg hl]
theorem amounts_run {m : Nat} (hm : m ≤ 9000) {v : D} {l : List D} {qs : List Rat} {h : AH} (e : asS h v = some l) (hv : ∀ l, v ≠ .fix l) (hl : 3 ≤ l.length ∧ l.length ≤ 7) (f : ∀ x ∈ l, fine m x) (hq : ∀ (k : Nat) q, qs[k]? = some q → (l[k]?).bind frac = some q) (hb : qs.length < l.length → (l[qs.length]?).bind frac = none) (hle : qs.length ≤ l.length) :
    Famounts_of [v] h = (if qs.length < l.length then .exc 2 (.int (qs.length : Int)) h else .ok (.tup (qs.map fr)) h) := by
  have r := ents_run hm e f (by omega) hq hb hle
  have c : cal [] 1 Fx_prizes_entries (acons (var 0) anil) [some v] h = (if qs.length < l.length then .exc 2 (.int (qs.length : Int)) h else .ok (.tup (qs.map fr)) h) := by rw [cal1 (d := v) rfl, r]
  by_cases c1 : qs.length < l.length
  · rw [if_pos c1] at c ⊢
    refine f_exc (n := 1) (fb := mamounts_of) (en := [some v]) sel0 ?_ rfl
    rw [amounts_head e hv, if_pos hl, a_ret, c, bindS_exc]
  · rw [if_neg c1] at c ⊢
    refine f_ret (n := 1) (fb := mamounts_of) ?_ (below_frs _ _)
    rw [amounts_head e hv, if_pos hl, ret1 c]
theorem by_exc {v d : D} {c : Nat} {h : AH} (e : Famounts_of [v] h = .exc c d h) (b : below h.length d = true) : Fby_number [v] h = .exc c d h := by
  refine f_exc (n := 3) (fb := mby_number) (en := [some v, none, none]) sel0 ?_ b
  unfold mby_number
  show seq _ _ [some v, none, none] h = _
  rw [a_seq, a_set, cal1 (d := v) rfl, e]
  rfl
/-- amounts by the number of places -/
def byN (n : Nat) (qs : List Rat) : List Rat := (List.range (2 ^ n)).map fun k => qs.getD (pl n k).length 0
@[simp] theorem byN_len (n : Nat) (qs : List Rat) : (byN n qs).length = 2 ^ n := by simp [byN]
theorem getD_get {qs : List Rat} {k : Nat} (h : k < qs.length) : qs[k]? = some (qs.getD k 0) := by
  rw [List.getD_eq_getElem?_getD, List.getElem?_eq_getElem h]; rfl
theorem by_eq {n m : Nat} (hm : m ≤ 4000) (h1 : 2 ≤ n) (h2 : n ≤ 6) {qs : List Rat} (h : AH) (hl : qs.length = n + 1) (hz : ∀ q ∈ qs, Qz m q) : Fby_number [.lst (hands 0 qs)] h = .ok (.tup ((byN n qs).map fr)) h := by
  have a := amounts_run (m := 2 + m) (by omega) (v := .lst (hands 0 qs)) (l := hands 0 qs) (qs := qs) (h := h) rfl (by intro l c; cases c) (by rw [hands_len, hl]; omega) (fine_hands 0 hz) (fun k q e => hand_at k q e) (by rw [hands_len]; omega) (by rw [hands_len]; omega)
  rw [if_neg (by rw [hands_len]; omega)] at a
  have pw : 2 ^ n ≤ 2 ^ 6 := Nat.pow_le_pow_right (by omega) h2
  have e0 : cal [] 1 Famounts_of (acons (var 0) anil) [some (.lst (hands 0 qs)), none, none] h = .ok (.tup (qs.map fr)) h := by rw [cal1 (d := .lst (hands 0 qs)) rfl, a]
  have e1 : wS (cal [] 1 Fall_lots (acons (bin dSub (dsp bLen (acons (var 1) anil)) (cI 1)) anil)) [some (.lst (hands 0 qs)), some (.tup (qs.map fr)), none] h = .ok ⟨(List.range (2 ^ n)).map (lotT n), []⟩ h := by
    apply w_tup
    rw [cal1 (d := .int (n : Int)) (h1 := h) (by
      rw [bin2 (d := .int ((qs.map fr).length : Nat)) (e := .int 1) (h1 := h) (h2 := h) (by rw [dsp1 (d := .tup (qs.map fr)) rfl, a_lenT]) rfl, o_sub, List.length_map, hl]
      congr 2
      omega), all_lots_eq (by omega) (by omega)]
  have c := lcF_all (vs := [2]) (fi := wS (cal [] 1 Fall_lots (acons (bin dSub (dsp bLen (acons (var 1) anil)) (cI 1)) anil))) (g := gN 2) (fe := bin ixD (var 1) (dsp bLen (acons (var 2) anil))) (fun d => match d with
    | .tup l => fr (qs.getD l.length 0)
    | d => d) e1 rfl (by rw [List.length_map, List.length_range]; omega) (by
      intro d hd
      obtain ⟨k, hk, rfl⟩ := List.mem_map.mp hd
      refine ⟨_, rfl, ?_⟩
      have hk := List.mem_range.mp hk
      have pll := pl_len n k
      show bin ixD (var 1) (dsp bLen (acons (var 2) anil)) [some (.lst (hands 0 qs)), some (.tup (qs.map fr)), some (lotT n k)] h = _
      rw [bin2 (d := .tup (qs.map fr)) (e := .int ((pl n k).length : Nat)) (h1 := h) (h2 := h) rfl (by rw [dsp1 (d := lotT n k) rfl]; unfold lotT; rw [a_lenT, natsD_len])]
      refine ix_nat h rfl ?_
      rw [List.getElem?_map, getD_get (by omega)]
      unfold lotT
      rw [Option.map_some]
      show _ = some (fr (qs.getD (natsD (pl n k)).length 0))
      rw [natsD_len])
  have e3 : ((List.range (2 ^ n)).map (lotT n)).map (fun d => match d with
    | .tup l => fr (qs.getD l.length 0)
    | d => d) = (byN n qs).map fr := by
    unfold byN
    rw [List.map_map, List.map_map]
    apply List.map_congr_left
    intro k _
    show fr (qs.getD (natsD (pl n k)).length 0) = fr (qs.getD (pl n k).length 0)
    rw [natsD_len]
  rw [e3] at c
  refine f_ret (n := 3) (fb := mby_number) ?_ (below_frs _ _)
  unfold mby_number
  show seq _ _ [some (.lst (hands 0 qs)), none, none] h = _
  refine (seq1 (set1 e0)).trans ?_
  refine ret1 ?_
  refine (dsp1 (d := .lst ((byN n qs).map fr)) c).trans ?_
  rw [a_bTupL, mkT_le (by rw [List.length_map, byN_len]; omega)]
/-! ### prize_sum -/
def sums (f : Rat) : List Rat → List Rat → List Rat
  | p :: ps, q :: qs => (f * p + q) :: sums f ps qs
  | _, _ => []
theorem zipd_frs (f : Rat) : ∀ (ps qs : List Rat), ps.length = qs.length → ∀ (F : D → D), (∀ p q, F (.tup [fr p, fr q]) = fr (f * p + q)) → (zipd (ps.map fr) (qs.map fr)).map F = (sums f ps qs).map fr
  | [], [], _, _, _ => rfl
  | p :: ps, q :: qs, h, F, hF => by
    show F (.tup [fr p, fr q]) :: (zipd (ps.map fr) (qs.map fr)).map F = fr (f * p + q) :: (sums f ps qs).map fr
    rw [hF, zipd_frs f ps qs (by simpa using h) F hF]
  | [], _ :: _, h, _, _ => by simp at h
  | _ :: _, [], h, _, _ => by simp at h
theorem zipd_mem : ∀ (ps qs : List Rat) (d : D), d ∈ zipd (ps.map fr) (qs.map fr) → ∃ p ∈ ps, ∃ q ∈ qs, d = .tup [fr p, fr q]
  | p :: ps, q :: qs, d, h => by
    rcases List.mem_cons.mp (show d ∈ .tup [fr p, fr q] :: zipd (ps.map fr) (qs.map fr) from h) with rfl | h
    · exact ⟨p, by simp, q, by simp, rfl⟩
    · obtain ⟨a, ha, b, hb, e⟩ := zipd_mem ps qs d h
      exact ⟨a, by simp [ha], b, by simp [hb], e⟩
  | [], [], _, h => nomatch h
  | [], _ :: _, _, h => nomatch h
  | _ :: _, [], _, h => nomatch h
theorem sums_len (f : Rat) : ∀ (ps qs : List Rat), ps.length = qs.length → (sums f ps qs).length = ps.length
  | [], [], _ => rfl
  | p :: ps, q :: qs, h => by show (sums f ps qs).length + 1 = ps.length + 1; rw [sums_len f ps qs (by simpa using h)]
  | [], _ :: _, h => by simp at h
  | _ :: _, [], h => by simp at h
theorem sums_get (f : Rat) : ∀ (ps qs : List Rat) (k : Nat) (p q : Rat), ps[k]? = some p → qs[k]? = some q → (sums f ps qs)[k]? = some (f * p + q)
  | a :: ps, b :: qs, 0, p, q, h1, h2 => by
    simp at h1 h2; subst h1 h2; rfl
  | a :: ps, b :: qs, k + 1, p, q, h1, h2 => sums_get f ps qs k p q (by simpa using h1) (by simpa using h2)
  | [], _, _, _, _, h1, _ => by simp at h1
  | _ :: _, [], _, _, _, _, h2 => by simp at h2
/-- the key of a dict of sums -/
noncomputable def sumF (f : Rat) : D → D := fun d => match d with
  | .tup [.tup [.int a, .int b], .tup [.int c, .int e]] => fr (f * (a /. b) + (c /. e))
  | d => d
theorem sumF_fr (f p q : Rat) : sumF f (.tup [fr p, fr q]) = fr (f * p + q) := by
  show fr (f * (p.num /. (p.den : Int)) + (q.num /. (q.den : Int))) = _
  rw [Rat.num_divInt_den, Rat.num_divInt_den]
theorem sum_run {n m : Nat} (hm : m ≤ 1000) (h1 : 2 ≤ n) (h2 : n ≤ 6) {a b c : D} {f : Rat} {ps qs : List Rat} {h : AH} (ea : Fprize_of [a, .int (n : Int)] h = .ok (.tup (ps.map fr)) h) (eb : Fprize_of [b, .int (n : Int)] h = .ok (.tup (qs.map fr)) h) (ec : Ffraction_of [c, .str "factor"] h = .ok (fr f) h)
    (hp : ps.length = 2 ^ n) (hq : qs.length = 2 ^ n) (zp : ∀ q ∈ ps, Qz m q) (zq : ∀ q ∈ qs, Qz m q) (zf : Qz m f) (m1 : 1 ≤ m) : Fprize_sum [.int (n : Int), a, b, c] h = .ok (.tup ((sums f ps qs).map fr)) h := by
  have pw : 2 ^ n ≤ 2 ^ 6 := Nat.pow_le_pow_right (by omega) h2
  have s1 : sSet 4 (cal [] 2 Fprize_of (acons (var 1) (acons (var 0) anil))) [some (.int (n : Int)), some a, some b, some c, none, none, none, none, none] h = .nx [some (.int (n : Int)), some a, some b, some c, some (.tup (ps.map fr)), none, none, none, none] h := set1 (by rw [cal2 (d := a) (e := .int (n : Int)) rfl rfl, ea])
  have s2 : sSet 5 (cal [] 2 Fprize_of (acons (var 2) (acons (var 0) anil))) [some (.int (n : Int)), some a, some b, some c, some (.tup (ps.map fr)), none, none, none, none] h = .nx [some (.int (n : Int)), some a, some b, some c, some (.tup (ps.map fr)), some (.tup (qs.map fr)), none, none, none] h := set1 (by rw [cal2 (d := b) (e := .int (n : Int)) rfl rfl, eb])
  have s3 : sSet 6 (cal [] 2 Ffraction_of (acons (var 3) (acons (cS "factor") anil))) [some (.int (n : Int)), some a, some b, some c, some (.tup (ps.map fr)), some (.tup (qs.map fr)), none, none, none] h = .nx [some (.int (n : Int)), some a, some b, some c, some (.tup (ps.map fr)), some (.tup (qs.map fr)), some (fr f), none, none] h := set1 (by rw [cal2 (d := c) (e := .str "factor") rfl rfl, ec])
  have lz : (zipd (ps.map fr) (qs.map fr)).length < 16777216 := by
    rcases zipd_len (ps.map fr) (qs.map fr) with z | z
    · have : (zipd (ps.map fr) (qs.map fr)).length = ((zipd (ps.map fr) (qs.map fr)).map (sumF f)).length := by simp
      rw [this, zipd_frs f ps qs (by omega) _ (sumF_fr f), List.length_map, sums_len f ps qs (by omega)]; omega
    · have : (zipd (ps.map fr) (qs.map fr)).length = ((zipd (ps.map fr) (qs.map fr)).map (sumF f)).length := by simp
      rw [this, zipd_frs f ps qs (by omega) _ (sumF_fr f), List.length_map, sums_len f ps qs (by omega)]; omega
  have cc := lcF_all (vs := [7, 8]) (fi := wkZ (var 4) (var 5)) (g := gT 2 (gs1 (gN 7) (gs1 (gN 8) gs0))) (fe := cal [] 2 Fadded (acons (cal [] 2 Ftimes (acons (var 6) (acons (var 7) anil))) (acons (var 8) anil))) (en := [some (.int (n : Int)), some a, some b, some c, some (.tup (ps.map fr)), some (.tup (qs.map fr)), some (fr f), none, none]) (h := h) (l := zipd (ps.map fr) (qs.map fr)) (src := []) (sumF f) rfl rfl lz (by
      intro d hd
      obtain ⟨p, hp, q, hq, rfl⟩ := zipd_mem _ _ _ hd
      refine ⟨_, rfl, ?_⟩
      show cal [] 2 Fadded _ [some (.int (n : Int)), some a, some b, some c, some (.tup (ps.map fr)), some (.tup (qs.map fr)), some (fr f), some (fr p), some (fr q)] h = _
      rw [cal2 (d := fr (f * p)) (e := fr q) (h1 := h) (by rw [cal2 (d := fr f) (e := fr p) rfl rfl, times_eq (by omega : m ≤ 4000) zf (zp _ hp)]) rfl, added_eq (by omega : m + m ≤ 4000) (zf.mul (zp _ hp) m1) ((zq _ hq).mono (by omega)), sumF_fr])
  rw [zipd_frs f ps qs (by omega) _ (sumF_fr f)] at cc
  refine f_ret (n := 9) (fb := mprize_sum) ?_ (below_frs _ _)
  unfold mprize_sum
  show seq _ _ [some (.int (n : Int)), some a, some b, some c, none, none, none, none, none] h = _
  rw [seq1 s1, seq1 s2, seq1 s3]
  refine ret1 ?_
  rw [dsp1 (d := .lst ((sums f ps qs).map fr)) cc, a_bTupL, mkT_le (by rw [List.length_map, sums_len f ps qs (by omega)]; omega)]
theorem sum_exc1 {n a b c d : D} {k : Nat} {h : AH} (ea : Fprize_of [a, n] h = .exc k d h) (bd : below h.length d = true) : Fprize_sum [n, a, b, c] h = .exc k d h := by
  refine f_exc (n := 9) (fb := mprize_sum) (en := [some n, some a, some b, some c, none, none, none, none, none]) sel0 ?_ bd
  unfold mprize_sum
  show seq _ _ [some n, some a, some b, some c, none, none, none, none, none] h = _
  rw [a_seq, a_set, cal2 (d := a) (e := n) rfl rfl, ea]
  rfl
theorem sum_exc3 {n a b c d p q : D} {k : Nat} {h : AH} (ea : Fprize_of [a, n] h = .ok p h) (eb : Fprize_of [b, n] h = .ok q h) (ec : Ffraction_of [c, .str "factor"] h = .exc k d h) (bd : below h.length d = true) : Fprize_sum [n, a, b, c] h = .exc k d h := by
  refine f_exc (n := 9) (fb := mprize_sum) (en := [some n, some a, some b, some c, some p, some q, none, none, none]) sel0 ?_ bd
  have s1 : sSet 4 (cal [] 2 Fprize_of (acons (var 1) (acons (var 0) anil))) [some n, some a, some b, some c, none, none, none, none, none] h = .nx [some n, some a, some b, some c, some p, none, none, none, none] h := set1 (by rw [cal2 (d := a) (e := n) rfl rfl, ea])
  have s2 : sSet 5 (cal [] 2 Fprize_of (acons (var 2) (acons (var 0) anil))) [some n, some a, some b, some c, some p, none, none, none, none] h = .nx [some n, some a, some b, some c, some p, some q, none, none, none] h := set1 (by rw [cal2 (d := b) (e := n) rfl rfl, eb])
  unfold mprize_sum
  show seq _ _ [some n, some a, some b, some c, none, none, none, none, none] h = _
  rw [seq1 s1, seq1 s2, a_seq, a_set, cal2 (d := c) (e := .str "factor") rfl rfl, ec]
  rfl
end Sh
/-! Plain laws, part 12: the first hit; rising_break against the law's falls. -/
namespace Sh
open PySem Cb
open scoped Rat

theorem fst_lt {p : Nat → Bool} {n k : Nat} (h : fst p n = some k) : k < n ∧ p k = true := by
  unfold fst at h
  exact ⟨by have := List.mem_of_find?_eq_some h; simpa using this, List.find?_some h⟩
/-- a loop over range(n) that returns at its first hit -/
theorem for_first {b : En → AH → RS} {j n : Nat} (S : En → Prop) (p : Nat → Bool) (v : Nat → D) {en : En} {h : AH} (s0 : S en)
    (s : ∀ k, k < n → ∀ en, S en → (p k = true → b (en.set j (some (.int (k : Int)))) h = .ret (v k) h) ∧ (p k = false → ∃ en2, (b (en.set j (some (.int (k : Int)))) h = .nx en2 h ∨ b (en.set j (some (.int (k : Int)))) h = .cont en2 h) ∧ S en2)) :
    (fst p n = none ∧ ∃ en', forL [] (gN j) b (rngI 0 1 n) en h = .nx en' h ∧ S en') ∨ ∃ k, fst p n = some k ∧ forL [] (gN j) b (rngI 0 1 n) en h = .ret (v k) h := by
  have loop := for_rng_or (n := n) (j := j) (b := b) (fun k en h' => fst p k = none ∧ S en ∧ h' = h) (fun r => ∃ k, fst p n = some k ∧ r = .ret (v k) h) (en := en) (h := h) ⟨rfl, s0, rfl⟩ (by
    rintro k hk en h' ⟨fn, se, rfl⟩
    obtain ⟨a1, a2⟩ := s k hk en se
    cases q : p k with
    | true => exact .inr (.inl ⟨_, _, a1 q, k, fst_hit hk q fn, rfl⟩)
    | false =>
      obtain ⟨en2, e, s2⟩ := a2 q
      exact .inl ⟨en2, _, e, by rw [fst_succ, fn, q]; rfl, s2, rfl⟩)
  rcases loop with ⟨en', h', e, fn, s2, rfl⟩ | ⟨k, e1, e2⟩
  · exact .inl ⟨fn, en', e, s2⟩
  · exact .inr ⟨k, e1, e2⟩
theorem fst_congr {p q : Nat → Bool} {n : Nat} (h : ∀ k, k < n → p k = q k) : fst p n = fst q n := by
  induction n with
  | zero => rfl
  | succ n ih => rw [fst_succ, fst_succ, ih (fun k hk => h k (by omega)), h n (by omega)]

/-! ### falls -/
def fallAt (qs : List Rat) (k i : Nat) : Bool := !k.testBit i && decide (qs.getD (k + 2 ^ i) 0 < qs.getD k 0)
def fallIn (n : Nat) (qs : List Rat) (k : Nat) : Option Nat := fst (fallAt qs k) n
def fallD (n : Nat) (qs : List Rat) : D := match fst (fun k => (fallIn n qs k).isSome) (2 ^ n) with
  | some k => (match fallIn n qs k with
    | some i => .tup [lotT n k, .int (i : Int)]
    | none => .non)
  | none => .non
theorem add_low {n k i : Nat} (hk : k < 2 ^ n) (hi : i < n) (hb : k.testBit i = false) : k + 2 ^ i < 2 ^ n := by
  rw [← or_pow hb]
  exact Nat.or_lt_two_pow hk (Nat.pow_lt_pow_right (by omega) hi)
theorem ix_tupN {qs : List Rat} {k : Nat} (h : AH) (hk : k < qs.length) : ixD (.tup (qs.map fr)) (.int (k : Int)) h = .ok (fr (qs.getD k 0)) h := ix_nat h rfl (by rw [List.getElem?_map, getD_get hk]; rfl)
theorem ix_asS {qs : List Rat} {k : Nat} {d : D} {h : AH} (e : asS h d = some (qs.map fr)) (hk : k < qs.length) : ixD d (.int (k : Int)) h = .ok (fr (qs.getD k 0)) h := ix_nat h e (by rw [List.getElem?_map, getD_get hk]; rfl)
theorem getD_mem {qs : List Rat} {k : Nat} (hk : k < qs.length) : qs.getD k 0 ∈ qs := List.mem_of_getElem? (getD_get hk)
noncomputable abbrev brise : En → AH → RS := seq (sIf (tst (bin dAnd (bin dShr (var 3) (var 4)) (cI 1))) cCont skip)
  (sIf (tcm dLt (cal [] 2 Fcompare (acons (bin ixD (var 2) (bin dOr (var 3) (bin dShl (cI 1) (var 4)))) (acons (bin ixD (var 2) (var 3)) anil))) (cI 0)) (sRet (dsp mkT (acons (cal [] 1 Flot_from (acons (var 3) anil)) (acons (var 4) anil)))) skip)
theorem rise_step {n m : Nat} (hm : m ≤ 4000) (h2 : n ≤ 6) {qs : List Rat} {h : AH} (hl : qs.length = 2 ^ n) (hz : ∀ q ∈ qs, Qz m q) (a b : D) {k i : Nat} (hk : k < 2 ^ n) (hi : i < n) :
    (fallAt qs k i = true → brise [some a, some b, some (.tup (qs.map fr)), some (.int (k : Int)), some (.int (i : Int))] h = .ret (.tup [lotT n k, .int (i : Int)]) h) ∧
    (fallAt qs k i = false → ∃ en2, (brise [some a, some b, some (.tup (qs.map fr)), some (.int (k : Int)), some (.int (i : Int))] h = .nx en2 h ∨ brise [some a, some b, some (.tup (qs.map fr)), some (.int (k : Int)), some (.int (i : Int))] h = .cont en2 h) ∧ ∃ y, en2 = [some a, some b, some (.tup (qs.map fr)), some (.int (k : Int)), y]) := by
  have t1 : tst (bin dAnd (bin dShr (var 3) (var 4)) (cI 1)) [some a, some b, some (.tup (qs.map fr)), some (.int (k : Int)), some (.int (i : Int))] h = .ok (k.testBit i) h := tst_bit (bit_test rfl rfl)
  unfold fallAt
  cases tb : k.testBit i with
  | true =>
    refine ⟨fun z => by simp at z, fun _ => ⟨[some a, some b, some (.tup (qs.map fr)), some (.int (k : Int)), some (.int (i : Int))], .inr ?_, _, rfl⟩⟩
    rw [tb] at t1
    show seq _ _ _ _ = _
    rw [a_seq, if1 t1]
    rfl
  | false =>
    rw [tb] at t1
    have ad := add_low hk hi tb
    have zb := or_pow tb
    have g1 : bin ixD (var 2) (bin dOr (var 3) (bin dShl (cI 1) (var 4))) [some a, some b, some (.tup (qs.map fr)), some (.int (k : Int)), some (.int (i : Int))] h = .ok (fr (qs.getD (k + 2 ^ i) 0)) h := by
      rw [bin2 (d := .tup (qs.map fr)) (e := .int ((k + 2 ^ i : Nat) : Int)) (h1 := h) (h2 := h) rfl (by
        rw [bin2 (d := .int (k : Int)) (e := .int ((2 ^ i : Nat) : Int)) (h1 := h) (h2 := h) rfl (by rw [bin2 (d := .int 1) (e := .int (i : Int)) rfl rfl, two_pow_shl (by omega)]), o_or, or_nat, zb]), ix_tupN h (by omega)]
    have g2 : bin ixD (var 2) (var 3) [some a, some b, some (.tup (qs.map fr)), some (.int (k : Int)), some (.int (i : Int))] h = .ok (fr (qs.getD k 0)) h := by
      rw [bin2 (d := .tup (qs.map fr)) (e := .int (k : Int)) rfl rfl, ix_tupN h (by omega)]
    have g3 : tcm dLt (cal [] 2 Fcompare (acons (bin ixD (var 2) (bin dOr (var 3) (bin dShl (cI 1) (var 4)))) (acons (bin ixD (var 2) (var 3)) anil))) (cI 0) [some a, some b, some (.tup (qs.map fr)), some (.int (k : Int)), some (.int (i : Int))] h = .ok (decide (qs.getD (k + 2 ^ i) 0 < qs.getD k 0)) h := tcm_ok (by
      rw [bin2 (d := .int (cmpQ (qs.getD (k + 2 ^ i) 0) (qs.getD k 0))) (e := .int 0) (h1 := h) (h2 := h) (by rw [cal2 g1 g2, compare_eq hm (hz _ (getD_mem (by omega))) (hz _ (getD_mem (by omega)))]) rfl, o_lt, cmp_lt])
    have g0 : seq (sIf (tst (bin dAnd (bin dShr (var 3) (var 4)) (cI 1))) cCont skip) (sIf (tcm dLt (cal [] 2 Fcompare (acons (bin ixD (var 2) (bin dOr (var 3) (bin dShl (cI 1) (var 4)))) (acons (bin ixD (var 2) (var 3)) anil))) (cI 0)) (sRet (dsp mkT (acons (cal [] 1 Flot_from (acons (var 3) anil)) (acons (var 4) anil)))) skip) [some a, some b, some (.tup (qs.map fr)), some (.int (k : Int)), some (.int (i : Int))] h = sIf (tcm dLt (cal [] 2 Fcompare (acons (bin ixD (var 2) (bin dOr (var 3) (bin dShl (cI 1) (var 4)))) (acons (bin ixD (var 2) (var 3)) anil))) (cI 0)) (sRet (dsp mkT (acons (cal [] 1 Flot_from (acons (var 3) anil)) (acons (var 4) anil)))) skip [some a, some b, some (.tup (qs.map fr)), some (.int (k : Int)), some (.int (i : Int))] h := by
      rw [a_seq, if0 t1, skip_nx, seq_nx]
    by_cases c : qs.getD (k + 2 ^ i) 0 < qs.getD k 0
    · refine ⟨fun _ => ?_, fun z => by rw [decide_eq_true c] at z; cases z⟩
      rw [decide_eq_true c] at g3
      refine g0.trans ?_
      rw [if1 g3]
      refine ret1 ?_
      rw [dsp2 (d := lotT n k) (e := .int (i : Int)) (h1 := h) (by rw [cal1 (d := .int (k : Int)) rfl, lot_from_eq hk (by omega)]) rfl, mkT_2]
    · refine ⟨fun z => (by rw [decide_eq_false c] at z; cases z), fun _ => ⟨[some a, some b, some (.tup (qs.map fr)), some (.int (k : Int)), some (.int (i : Int))], .inl ?_, _, rfl⟩⟩
      rw [decide_eq_false c] at g3
      exact g0.trans (if0 g3)

noncomputable abbrev brise2 : En → AH → RS := sFor (wkR1 (var 1)) (gN 4) brise
theorem rise_out {n m : Nat} (hm : m ≤ 4000) (h2 : n ≤ 6) {qs : List Rat} {h : AH} (hl : qs.length = 2 ^ n) (hz : ∀ q ∈ qs, Qz m q) (a : D) (y : Option D) {k : Nat} (hk : k < 2 ^ n) :
    (∀ i, fallIn n qs k = some i → brise2 [some a, some (.int (n : Int)), some (.tup (qs.map fr)), some (.int (k : Int)), y] h = .ret (.tup [lotT n k, .int (i : Int)]) h) ∧
    (fallIn n qs k = none → ∃ en2, brise2 [some a, some (.int (n : Int)), some (.tup (qs.map fr)), some (.int (k : Int)), y] h = .nx en2 h ∧ ∃ y, en2 = [some a, some (.int (n : Int)), some (.tup (qs.map fr)), some (.int (k : Int)), y]) := by
  have hw : wkR1 (var 1) [some a, some (.int (n : Int)), some (.tup (qs.map fr)), some (.int (k : Int)), y] h = .ok ⟨rngI 0 1 n, []⟩ h := w_rng1 rfl (by omega)
  have st : brise2 [some a, some (.int (n : Int)), some (.tup (qs.map fr)), some (.int (k : Int)), y] h = forL [] (gN 4) brise (rngI 0 1 n) [some a, some (.int (n : Int)), some (.tup (qs.map fr)), some (.int (k : Int)), y] h := by
    show (wkR1 (var 1) [some a, some (.int (n : Int)), some (.tup (qs.map fr)), some (.int (k : Int)), y] h).bindS _ _ = _
    rw [hw, bindS_ok]
  have lp := for_first (b := brise) (j := 4) (n := n) (h := h) (fun en => ∃ y, en = [some a, some (.int (n : Int)), some (.tup (qs.map fr)), some (.int (k : Int)), y]) (fallAt qs k) (fun i => .tup [lotT n k, .int (i : Int)]) (en := [some a, some (.int (n : Int)), some (.tup (qs.map fr)), some (.int (k : Int)), y]) ⟨y, rfl⟩ (by
    rintro i hi en ⟨z, rfl⟩
    exact rise_step hm h2 hl hz a (.int (n : Int)) hk hi)
  rw [st]
  unfold fallIn
  rcases lp with ⟨f, en', e, z⟩ | ⟨i, f, e⟩
  · refine ⟨fun i q => ?_, fun _ => ⟨en', e, z⟩⟩
    rw [f] at q; cases q
  · refine ⟨fun i' q => ?_, fun q => ?_⟩
    · rw [f] at q; cases q; exact e
    · rw [f] at q; cases q
theorem rising_eq {n m : Nat} (hm : m ≤ 4000) (h1 : 2 ≤ n) (h2 : n ≤ 6) {a : D} {qs : List Rat} {h : AH} (ea : Fprize_of [a, .int (n : Int)] h = .ok (.tup (qs.map fr)) h) (hl : qs.length = 2 ^ n) (hz : ∀ q ∈ qs, Qz m q) :
    Frising_break [a, .int (n : Int)] h = .ok (fallD n qs) h := by
  have pw : 2 ^ n ≤ 2 ^ 6 := Nat.pow_le_pow_right (by omega) h2
  have s1 : sSet 2 (cal [] 2 Fprize_of (acons (var 0) (acons (var 1) anil))) [some a, some (.int (n : Int)), none, none, none] h = .nx [some a, some (.int (n : Int)), some (.tup (qs.map fr)), none, none] h := set1 (by rw [cal2 (d := a) (e := .int (n : Int)) rfl rfl, ea])
  have hw : wkR1 (bin dShl (cI 1) (var 1)) [some a, some (.int (n : Int)), some (.tup (qs.map fr)), none, none] h = .ok ⟨rngI 0 1 (2 ^ n), []⟩ h := w_rng1 (by rw [bin2 (d := .int 1) (e := .int (n : Int)) rfl rfl, two_pow_shl (by omega)]) (by omega)
  have lp := for_first (b := brise2) (j := 3) (n := 2 ^ n) (h := h) (fun en => ∃ x y, en = [some a, some (.int (n : Int)), some (.tup (qs.map fr)), x, y]) (fun k => (fallIn n qs k).isSome) (fun k => match fallIn n qs k with
    | some i => .tup [lotT n k, .int (i : Int)]
    | none => .non) (en := [some a, some (.int (n : Int)), some (.tup (qs.map fr)), none, none]) ⟨_, _, rfl⟩ (by
    rintro k hk en ⟨x, y, rfl⟩
    obtain ⟨r1, r2⟩ := rise_out hm h2 hl hz a y hk
    refine ⟨fun q => ?_, fun q => ?_⟩
    · cases f : fallIn n qs k with
      | none => rw [f] at q; cases q
      | some i => exact r1 i f
    · cases f : fallIn n qs k with
      | some i => rw [f] at q; cases q
      | none =>
        obtain ⟨en2, e, z, rfl⟩ := r2 f
        exact ⟨_, .inl e, _, _, rfl⟩)
  have st : mrising_break (startE 5 [a, .int (n : Int)]) h = (forL [] (gN 3) brise2 (rngI 0 1 (2 ^ n)) [some a, some (.int (n : Int)), some (.tup (qs.map fr)), none, none] h).seq (sRet cN) := by
    unfold mrising_break
    show seq _ _ [some a, some (.int (n : Int)), none, none, none] h = _
    rw [seq1 s1, a_seq, a_for, hw, bindS_ok]
  have bl : below h.length (fallD n qs) = true := by
    unfold fallD
    split
    · split
      · show (below h.length (lotT n _) && (below h.length (.int _) && true)) = true
        rw [below_lotT]; rfl
      · rfl
    · rfl
  refine f_ret (n := 5) (fb := mrising_break) ?_ bl
  rw [st]
  unfold fallD
  rcases lp with ⟨f, en', e, z⟩ | ⟨k, f, e⟩
  · rw [e, f, seq_nx]; rfl
  · rw [e, f, seq_ret]
theorem rising_exc {a n d : D} {c : Nat} {h : AH} (e : Fprize_of [a, n] h = .exc c d h) (b : below h.length d = true) : Frising_break [a, n] h = .exc c d h := by
  refine f_exc (n := 5) (fb := mrising_break) (en := [some a, some n, none, none, none]) sel0 ?_ b
  unfold mrising_break
  show seq _ _ [some a, some n, none, none, none] h = _
  rw [a_seq, a_set, cal2 (d := a) (e := n) rfl rfl, e]
  rfl
/-! ### the law's falls -/
theorem natsD_mem {l : List Nat} {i : Nat} : ((natsD l).any fun d => deqv d (.int (i : Int))) = decide (i ∈ l) := by
  induction l with
  | nil => rfl
  | cons a l ih =>
    show (deqv (.int (a : Int)) (.int (i : Int)) || (natsD l).any fun d => deqv d (.int (i : Int))) = _
    rw [ih, deqv_int]
    by_cases c : a = i
    · subst c; simp
    · rw [decide_eq_false (by omega)]
      simp [Ne.symm c]
theorem mem_pl {n k i : Nat} : i ∈ pl n k ↔ i < n ∧ k.testBit i = true := by unfold pl; simp
theorem natsD_flat (l : List Nat) : (natsD l).all D.flat = true := by
  rw [List.all_eq_true]
  intro d hd
  obtain ⟨i, _, rfl⟩ := List.mem_map.mp hd
  rfl
theorem in_lot (neg : Bool) {n k i : Nat} (hi : i < n) (h : AH) : dIn neg (.int (i : Int)) (lotL n k) h = .ok (.bl (if neg then !k.testBit i else k.testBit i)) h := by
  show (bif (D.int (i : Int)).flat && (natsD (pl n k)).all D.flat then Res.ok (D.bl (if neg then !((natsD (pl n k)).any fun d => deqv d (.int (i : Int))) else (natsD (pl n k)).any fun d => deqv d (.int (i : Int)))) h else .stuck) = _
  rw [natsD_flat, natsD_mem]
  have : decide (i ∈ pl n k) = k.testBit i := by
    cases q : k.testBit i with
    | true => exact decide_eq_true (mem_pl.mpr ⟨hi, q⟩)
    | false => exact decide_eq_false fun z => by have := (mem_pl.mp z).2; rw [q] at this; cases this
  rw [this]
  rfl
theorem lots_ix {n k : Nat} (hn : n ≤ 20) (hk : k < 2 ^ n) {f g : En → AH → Res D} {en : En} {h : AH} (ef : f en h = .ok (.int (n : Int)) h) (eg : g en h = .ok (.int (k : Int)) h) : bin ixD (cal [] 1 Fx_law_lots (acons f anil)) g en h = .ok (lotL n k) h := by
  rw [bin2 (d := .lst (lots n)) (e := .int (k : Int)) (h1 := h) (by rw [cal1 ef, lots_eq hn]) eg]
  exact ix_nat h rfl (lots_get hk)
noncomputable abbrev bfall : En → AH → RS := sIf (tcm (dIn true) (var 3) (bin ixD (cal [] 1 Fx_law_lots (acons (var 0) anil)) (var 2))) (sIf (tst (cal [] 2 Fx_law_under (acons (bin ixD (var 1) (bin dAdd (var 2) (cal [] 1 Fx_law_number (acons (dsp mkF (acons (var 3) anil)) anil)))) (acons (bin ixD (var 1) (var 2)) anil)))) (sRet (dsp mkT (acons (dsp bTup (acons (bin ixD (cal [] 1 Fx_law_lots (acons (var 0) anil)) (var 2)) anil)) (acons (var 3) anil)))) skip) skip
theorem fall_step {n m : Nat} (hm : m ≤ 4000) (h2 : n ≤ 6) {qs : List Rat} {h : AH} {d : D} (e : asS h d = some (qs.map fr)) (hl : qs.length = 2 ^ n) (hz : ∀ q ∈ qs, Qz m q) {k i : Nat} (hk : k < 2 ^ n) (hi : i < n) :
    (fallAt qs k i = true → bfall [some (.int (n : Int)), some d, some (.int (k : Int)), some (.int (i : Int))] h = .ret (.tup [lotT n k, .int (i : Int)]) h) ∧
    (fallAt qs k i = false → bfall [some (.int (n : Int)), some d, some (.int (k : Int)), some (.int (i : Int))] h = .nx [some (.int (n : Int)), some d, some (.int (k : Int)), some (.int (i : Int))] h) := by
  have t1 : tcm (dIn true) (var 3) (bin ixD (cal [] 1 Fx_law_lots (acons (var 0) anil)) (var 2)) [some (.int (n : Int)), some d, some (.int (k : Int)), some (.int (i : Int))] h = .ok (!k.testBit i) h := tcm_ok (by
    rw [bin2 (d := .int (i : Int)) (e := lotL n k) (h1 := h) rfl (lots_ix (by omega) hk rfl rfl), in_lot true hi]; rfl)
  unfold fallAt
  cases tb : k.testBit i with
  | true =>
    rw [tb] at t1
    refine ⟨fun z => by simp at z, fun _ => ?_⟩
    exact if0 t1
  | false =>
    rw [tb] at t1
    have ad := add_low hk hi tb
    have g1 : bin ixD (var 1) (bin dAdd (var 2) (cal [] 1 Fx_law_number (acons (dsp mkF (acons (var 3) anil)) anil))) [some (.int (n : Int)), some d, some (.int (k : Int)), some (.int (i : Int))] h = .ok (fr (qs.getD (k + 2 ^ i) 0)) h := by
      rw [bin2 (d := d) (e := .int ((k + 2 ^ i : Nat) : Int)) (h1 := h) (h2 := h) rfl (by
        rw [bin2 (d := .int (k : Int)) (e := .int ((2 ^ i : Nat) : Int)) (h1 := h) (h2 := h) rfl (by rw [cal1 (d := .lst [.int (i : Int)]) (h1 := h) (by rw [dsp1 (d := .int (i : Int)) rfl, mkF_1]), number_one (by omega)]), o_add]
        congr 2), ix_asS e (by omega)]
    have g2 : bin ixD (var 1) (var 2) [some (.int (n : Int)), some d, some (.int (k : Int)), some (.int (i : Int))] h = .ok (fr (qs.getD k 0)) h := by
      rw [bin2 (d := d) (e := .int (k : Int)) rfl rfl, ix_asS e (by omega)]
    have g3 : tst (cal [] 2 Fx_law_under (acons (bin ixD (var 1) (bin dAdd (var 2) (cal [] 1 Fx_law_number (acons (dsp mkF (acons (var 3) anil)) anil)))) (acons (bin ixD (var 1) (var 2)) anil))) [some (.int (n : Int)), some d, some (.int (k : Int)), some (.int (i : Int))] h = .ok (decide (qs.getD (k + 2 ^ i) 0 < qs.getD k 0)) h := tst_ok (by
      rw [cal2 g1 g2, under_eq hm (hz _ (getD_mem (by omega))) (hz _ (getD_mem (by omega)))])
    refine ⟨fun z => ?_, fun z => ?_⟩
    · have c : decide (qs.getD (k + 2 ^ i) 0 < qs.getD k 0) = true := z
      rw [c] at g3
      refine (if1 t1).trans ((if1 g3).trans ?_)
      refine ret1 ?_
      have pll := pl_len n k
      rw [dsp2 (d := lotT n k) (e := .int (i : Int)) (h1 := h) (by rw [dsp1 (d := lotL n k) (lots_ix (by omega) hk rfl rfl)]; unfold lotL; rw [a_bTupL, mkT_le (by rw [natsD_len]; omega)]; rfl) rfl, mkT_2]
    · have c : decide (qs.getD (k + 2 ^ i) 0 < qs.getD k 0) = false := z
      rw [c] at g3
      exact (if1 t1).trans (if0 g3)
theorem falls_eq {n m : Nat} (hm : m ≤ 4000) (h2 : n ≤ 6) {qs : List Rat} {h : AH} {d : D} (e : asS h d = some (qs.map fr)) (hl : qs.length = 2 ^ n) (hz : ∀ q ∈ qs, Qz m q) :
    Fx_law_falls [.int (n : Int), d] h = .ok (fallD n qs) h := by
  have pw : 2 ^ n ≤ 2 ^ 6 := Nat.pow_le_pow_right (by omega) h2
  have inner : ∀ k, k < 2 ^ n → ∀ y, (∀ i, fallIn n qs k = some i → sFor (wkR1 (var 0)) (gN 3) bfall [some (.int (n : Int)), some d, some (.int (k : Int)), y] h = .ret (.tup [lotT n k, .int (i : Int)]) h) ∧
    (fallIn n qs k = none → ∃ y2, sFor (wkR1 (var 0)) (gN 3) bfall [some (.int (n : Int)), some d, some (.int (k : Int)), y] h = .nx [some (.int (n : Int)), some d, some (.int (k : Int)), y2] h) := by
    intro k hk y
    have hw : wkR1 (var 0) [some (.int (n : Int)), some d, some (.int (k : Int)), y] h = .ok ⟨rngI 0 1 n, []⟩ h := w_rng1 rfl (by omega)
    have st : sFor (wkR1 (var 0)) (gN 3) bfall [some (.int (n : Int)), some d, some (.int (k : Int)), y] h = forL [] (gN 3) bfall (rngI 0 1 n) [some (.int (n : Int)), some d, some (.int (k : Int)), y] h := by
      rw [a_for, hw, bindS_ok]
    have lp := for_first (b := bfall) (j := 3) (n := n) (h := h) (fun en => ∃ y, en = [some (.int (n : Int)), some d, some (.int (k : Int)), y]) (fallAt qs k) (fun i => .tup [lotT n k, .int (i : Int)]) (en := [some (.int (n : Int)), some d, some (.int (k : Int)), y]) ⟨y, rfl⟩ (by
      rintro i hi en ⟨z, rfl⟩
      obtain ⟨r1, r2⟩ := fall_step hm h2 e hl hz hk hi
      exact ⟨r1, fun q => ⟨_, .inl (r2 q), _, rfl⟩⟩)
    rw [st]
    unfold fallIn
    rcases lp with ⟨f, en', e, z, rfl⟩ | ⟨i, f, e⟩
    · refine ⟨fun i q => ?_, fun _ => ⟨z, e⟩⟩
      rw [f] at q; cases q
    · refine ⟨fun i' q => ?_, fun q => ?_⟩
      · rw [f] at q; cases q; exact e
      · rw [f] at q; cases q
  have hw : wkR1 (dsp bLen (acons (var 1) anil)) [some (.int (n : Int)), some d, none, none] h = .ok ⟨rngI 0 1 (2 ^ n), []⟩ h := w_rng1 (by rw [dsp1 (d := d) rfl, len_of e, List.length_map, hl]) (by omega)
  have lp := for_first (b := sFor (wkR1 (var 0)) (gN 3) bfall) (j := 2) (n := 2 ^ n) (h := h) (fun en => ∃ x y, en = [some (.int (n : Int)), some d, x, y]) (fun k => (fallIn n qs k).isSome) (fun k => match fallIn n qs k with
    | some i => .tup [lotT n k, .int (i : Int)]
    | none => .non) (en := [some (.int (n : Int)), some d, none, none]) ⟨_, _, rfl⟩ (by
    rintro k hk en ⟨x, y, rfl⟩
    obtain ⟨r1, r2⟩ := inner k hk y
    refine ⟨fun q => ?_, fun q => ?_⟩
    · cases f : fallIn n qs k with
      | none => rw [f] at q; cases q
      | some i => exact r1 i f
    · cases f : fallIn n qs k with
      | some i => rw [f] at q; cases q
      | none =>
        obtain ⟨z, e⟩ := r2 f
        exact ⟨_, .inl e, _, _, rfl⟩)
  have bl : below h.length (fallD n qs) = true := by
    unfold fallD
    split
    · split
      · show (below h.length (lotT n _) && (below h.length (.int _) && true)) = true
        rw [below_lotT]; rfl
      · rfl
    · rfl
  refine f_ret (n := 4) (fb := mx_law_falls) ?_ bl
  unfold mx_law_falls
  show seq _ _ [some (.int (n : Int)), some d, none, none] h = _
  rw [a_seq, a_for, hw, bindS_ok]
  show (forL [] (gN 2) (sFor (wkR1 (var 0)) (gN 3) bfall) (rngI 0 1 (2 ^ n)) [some (.int (n : Int)), some d, none, none] h).seq (sRet cN) = _
  unfold fallD
  rcases lp with ⟨f, en', e, z⟩ | ⟨k, f, e⟩
  · rw [e, f, seq_nx]; rfl
  · rw [e, f, seq_ret]
end Sh
/-! Plain laws, part 13: counts by blocks. -/
namespace Sh
open PySem Cb
open scoped Rat

def blkD (bs : List (List Nat)) : D := .lst (bs.map fun b => .lst (natsD b))
def tldD (bs : List (List Nat)) : D := .tup (bs.map fun b => .tup (natsD b))
def cntB (k : Nat) (b : List Nat) : Int := ((b.filter k.testBit).length : Nat)
def cnt (bs : List (List Nat)) (k : Nat) : List Int := bs.map (cntB k)
def cntD (bs : List (List Nat)) (k : Nat) : D := .tup ((cnt bs k).map D.int)
theorem cnt_len (bs : List (List Nat)) (k : Nat) : (cnt bs k).length = bs.length := by simp [cnt]
/-- blocks that are fine: few, small -/
def Few (n : Nat) (bs : List (List Nat)) : Prop := bs.length ≤ 1000 ∧ ∀ b ∈ bs, b.length ≤ 1000 ∧ ∀ i ∈ b, i < n
theorem intsOf_map (l : List Int) : intsOf (l.map D.int) = some l := by
  induction l with
  | nil => rfl
  | cons i l ih => show (intsOf (l.map D.int)).map (i :: ·) = _; rw [ih]; rfl
theorem bSum_ints (l : List Int) (h : AH) : bSum [.lst (l.map D.int)] h = .ok (.int l.sum) h := by
  show (match (asL h (.lst (l.map D.int))).bind intsOf with
    | some ns => Res.ok (D.int ns.sum) h
    | none => .stuck) = _
  show (match intsOf (l.map D.int) with
    | some ns => Res.ok (D.int ns.sum) h
    | none => .stuck) = _
  rw [intsOf_map]
theorem bits_sum (k : Nat) (b : List Nat) : (b.map fun i => if k.testBit i then (1 : Int) else 0).sum = cntB k b := by
  induction b with
  | nil => rfl
  | cons i b ih =>
    unfold cntB at ih ⊢
    rw [List.map_cons, List.sum_cons, ih]
    cases q : k.testBit i with
    | true => rw [List.filter_cons_of_pos q, List.length_cons]; simp; omega
    | false => rw [List.filter_cons_of_neg (by rw [q]; simp)]; simp
def bitD (k : Nat) : D → D
  | .int i => .int (if k.testBit i.toNat then 1 else 0)
  | d => d
theorem bitD_map (k : Nat) (b : List Nat) : (natsD b).map (bitD k) = (b.map fun i => if k.testBit i then (1 : Int) else 0).map D.int := by
  unfold natsD
  rw [List.map_map, List.map_map]
  rfl
def natsOf : D → List Nat
  | .tup l => l.map fun d => match d with
    | .int i => i.toNat
    | _ => 0
  | .lst l => l.map fun d => match d with
    | .int i => i.toNat
    | _ => 0
  | _ => []
theorem natsOf_tup (b : List Nat) : natsOf (.tup (natsD b)) = b := by
  show (natsD b).map _ = b
  unfold natsD
  rw [List.map_map]
  exact List.map_id'' (fun _ => rfl) b
theorem natsOf_lst (b : List Nat) : natsOf (.lst (natsD b)) = b := by
  show (natsD b).map _ = b
  unfold natsD
  rw [List.map_map]
  exact List.map_id'' (fun _ => rfl) b
theorem counts_of_eq {n : Nat} {bs : List (List Nat)} (fw : Few n bs) (k : Nat) (h : AH) : Fcounts_of [tldD bs, .int (k : Int)] h = .ok (cntD bs k) h := by
  obtain ⟨f1, f2⟩ := fw
  have cc := lcF_all (vs := [2]) (fi := wS (var 0)) (g := gN 2) (fe := dsp bSum (acons (lcF [3] (wS (var 2)) (gN 3) tyes (bin dAnd (bin dShr (var 1) (var 3)) (cI 1))) anil)) (en := [some (tldD bs), some (.int (k : Int)), none, none]) (h := h) (l := bs.map fun b => .tup (natsD b)) (src := []) (fun d => .int (cntB k (natsOf d))) (w_tup rfl) rfl (by rw [List.length_map]; omega) (by
    intro d hd
    obtain ⟨b, hb, rfl⟩ := List.mem_map.mp hd
    refine ⟨_, rfl, ?_⟩
    have c2 := lcF_all (vs := [3]) (fi := wS (var 2)) (g := gN 3) (fe := bin dAnd (bin dShr (var 1) (var 3)) (cI 1)) (en := [some (tldD bs), some (.int (k : Int)), some (.tup (natsD b)), none]) (h := h) (l := natsD b) (src := []) (bitD k) (w_tup rfl) rfl (by rw [natsD_len]; have := (f2 b hb).1; omega) (by
      intro d hd
      obtain ⟨i, hi, rfl⟩ := List.mem_map.mp hd
      exact ⟨_, rfl, bit_test rfl rfl⟩)
    rw [bitD_map] at c2
    show dsp bSum _ [some (tldD bs), some (.int (k : Int)), some (.tup (natsD b)), none] h = _
    rw [dsp1 c2, bSum_ints, bits_sum, natsOf_tup])
  have e : (bs.map fun b => D.tup (natsD b)).map (fun d => D.int (cntB k (natsOf d))) = (cnt bs k).map D.int := by
    unfold cnt
    rw [List.map_map, List.map_map]
    apply List.map_congr_left
    intro b _
    show D.int (cntB k (natsOf (.tup (natsD b)))) = D.int (cntB k b)
    rw [natsOf_tup]
  rw [e] at cc
  refine f_ret (n := 4) (fb := mcounts_of) ?_ (belows_ints _)
  unfold mcounts_of
  refine ret1 ?_
  refine (dsp1 cc).trans ?_
  rw [a_bTupL, mkT_le (by rw [List.length_map, cnt_len]; omega)]
  rfl
theorem counted_eq {n : Nat} (hn : n ≤ 20) {bs : List (List Nat)} (fw : Few n bs) {k : Nat} (hk : k < 2 ^ n) (h : AH) : Fx_law_counted [.int (n : Int), blkD bs, .int (k : Int)] h = .ok (cntD bs k) h := by
  obtain ⟨f1, f2⟩ := fw
  have e1 : bin ixD (cal [] 1 Fx_law_lots (acons (var 0) anil)) (var 2) [some (.int (n : Int)), some (blkD bs), some (.int (k : Int)), none, none, none] h = .ok (lotL n k) h := lots_ix hn hk rfl rfl
  have cc := lcF_all (vs := [4]) (fi := wS (var 1)) (g := gN 4) (fe := dsp bLen (acons (lcF [5] (wS (var 4)) (gN 5) (tcm (dIn false) (var 5) (var 3)) (var 5)) anil)) (en := [some (.int (n : Int)), some (blkD bs), some (.int (k : Int)), some (lotL n k), none, none]) (h := h) (l := bs.map fun b => .lst (natsD b)) (src := []) (fun d => .int (cntB k (natsOf d))) (w_lst rfl) rfl (by rw [List.length_map]; omega) (by
    intro d hd
    obtain ⟨b, hb, rfl⟩ := List.mem_map.mp hd
    refine ⟨_, rfl, ?_⟩
    obtain ⟨fb1, fb2⟩ := f2 b hb
    have c2 := lcF_eq (vs := [5]) (fi := wS (var 4)) (g := gN 5) (ft := tcm (dIn false) (var 5) (var 3)) (fe := var 5) (en := [some (.int (n : Int)), some (blkD bs), some (.int (k : Int)), some (lotL n k), some (.lst (natsD b)), none]) (h := h) (l := natsD b) (src := []) (tbD k) id (w_lst rfl) rfl (by rw [natsD_len]; omega) (by
      intro d hd
      obtain ⟨i, hi, rfl⟩ := List.mem_map.mp hd
      refine ⟨_, rfl, tcm_ok ?_, fun _ => rfl⟩
      exact (bin2 (d := .int (i : Int)) (e := lotL n k) (h1 := h) (h2 := h) rfl rfl).trans (in_lot false (fb2 i hi) h))
    rw [List.map_id, natsD_filter] at c2
    show dsp bLen _ [some (.int (n : Int)), some (blkD bs), some (.int (k : Int)), some (lotL n k), some (.lst (natsD b)), none] h = _
    rw [dsp1 c2, a_lenL, natsD_len, natsOf_lst]
    rfl)
  have e : (bs.map fun b => D.lst (natsD b)).map (fun d => D.int (cntB k (natsOf d))) = (cnt bs k).map D.int := by
    unfold cnt
    rw [List.map_map, List.map_map]
    apply List.map_congr_left
    intro b _
    show D.int (cntB k (natsOf (.lst (natsD b)))) = D.int (cntB k b)
    rw [natsOf_lst]
  rw [e] at cc
  refine f_ret (n := 6) (fb := mx_law_counted) ?_ (belows_ints _)
  unfold mx_law_counted
  refine (seq1 (set1 e1)).trans ?_
  refine ret1 ?_
  refine (dsp1 cc).trans ?_
  rw [a_bTupL, mkT_le (by rw [List.length_map, cnt_len]; omega)]
  rfl
/-! ### the first number with the same counts -/
def fa (bs : List (List Nat)) (k : Nat) : Nat := (fst (fun j => cnt bs j == cnt bs k) (k + 1)).getD k
theorem fa_spec (bs : List (List Nat)) (k : Nat) : fst (fun j => cnt bs j == cnt bs k) (k + 1) = some (fa bs k) := by
  unfold fa
  cases e : fst (fun j => cnt bs j == cnt bs k) (k + 1) with
  | some j => rfl
  | none =>
    have := fst_none.mp e k (by omega)
    simp at this
theorem fa_le (bs : List (List Nat)) (k : Nat) : fa bs k ≤ k := by
  have := (fst_lt (fa_spec bs k)).1
  omega
theorem deqvs_ints : ∀ (a b : List Int), deqvs (a.map D.int) (b.map D.int) = (a == b)
  | [], [] => rfl
  | [], _ :: _ => rfl
  | _ :: _, [] => rfl
  | i :: a, j :: b => by
    show (deqv (.int i) (.int j) && deqvs (a.map D.int) (b.map D.int)) = _
    rw [deqvs_ints a b, deqv_int]
    show _ = (i == j && a == b)
    congr 1
theorem okd_ints (f : Nat) (a : List Int) : okd (f + 2) (.tup (a.map D.int)) = true := by
  show (a.map D.int).all (okd (f + 1)) = true
  rw [List.all_eq_true]
  intro d hd
  obtain ⟨i, _, rfl⟩ := List.mem_map.mp hd
  rfl
theorem o_eqc (a b : List Int) (h : AH) : dEq (.tup (a.map D.int)) (.tup (b.map D.int)) h = .ok (.bl (a == b)) h := by
  unfold dEq
  rw [okd_ints 18 a, okd_ints 18 b, deqv_tup, deqvs_ints]
  rfl
theorem alike_eq {n : Nat} (hn : n ≤ 20) {bs : List (List Nat)} (fw : Few n bs) {k : Nat} (hk : k < 2 ^ n) (h : AH) : Fx_law_first_alike [.int (n : Int), blkD bs, .int (k : Int)] h = .ok (.int (fa bs k : Nat)) h := by
  have pw : 2 ^ n ≤ 2 ^ 20 := Nat.pow_le_pow_right (by omega) hn
  have hw : wkR1 (bin dAdd (var 2) (cI 1)) [some (.int (n : Int)), some (blkD bs), some (.int (k : Int)), none] h = .ok ⟨rngI 0 1 (k + 1), []⟩ h := w_rng1 rfl (by omega)
  have lp := for_first (b := sIf (tcm dEq (cal [] 3 Fx_law_counted (acons (var 0) (acons (var 1) (acons (var 3) anil)))) (cal [] 3 Fx_law_counted (acons (var 0) (acons (var 1) (acons (var 2) anil))))) (sRet (var 3)) skip) (j := 3) (n := k + 1) (h := h) (fun en => ∃ y, en = [some (.int (n : Int)), some (blkD bs), some (.int (k : Int)), y]) (fun j => cnt bs j == cnt bs k) (fun j => .int (j : Int)) (en := [some (.int (n : Int)), some (blkD bs), some (.int (k : Int)), none]) ⟨_, rfl⟩ (by
    rintro j hj en ⟨y, rfl⟩
    have t : tcm dEq (cal [] 3 Fx_law_counted (acons (var 0) (acons (var 1) (acons (var 3) anil)))) (cal [] 3 Fx_law_counted (acons (var 0) (acons (var 1) (acons (var 2) anil)))) [some (.int (n : Int)), some (blkD bs), some (.int (k : Int)), some (.int (j : Int))] h = .ok (cnt bs j == cnt bs k) h := tcm_ok (by
      rw [bin2 (d := cntD bs j) (e := cntD bs k) (h1 := h) (h2 := h) (by rw [cal3 (d := .int (n : Int)) (e := blkD bs) (x := .int (j : Int)) rfl rfl rfl, counted_eq hn fw (by omega)]) (by rw [cal3 (d := .int (n : Int)) (e := blkD bs) (x := .int (k : Int)) rfl rfl rfl, counted_eq hn fw hk])]
      exact o_eqc _ _ _)
    refine ⟨fun q => ?_, fun q => ⟨[some (.int (n : Int)), some (blkD bs), some (.int (k : Int)), some (.int (j : Int))], .inl ?_, _, rfl⟩⟩
    · rw [q] at t
      exact (if1 t).trans (ret1 rfl)
    · rw [q] at t
      exact (if0 t).trans rfl)
  refine f_ret (n := 4) (fb := mx_law_first_alike) ?_ rfl
  unfold mx_law_first_alike
  show seq _ _ [some (.int (n : Int)), some (blkD bs), some (.int (k : Int)), none] h = _
  rw [a_seq, a_for, hw, bindS_ok]
  show (forL [] (gN 3) _ (rngI 0 1 (k + 1)) [some (.int (n : Int)), some (blkD bs), some (.int (k : Int)), none] h).seq _ = _
  rcases lp with ⟨f, _⟩ | ⟨j, f, e⟩
  · rw [fa_spec] at f; cases f
  · rw [fa_spec] at f
    cases f
    rw [e, seq_ret]
/-! ### uneven -/
def unAt (qs : List Rat) (bs : List (List Nat)) (k : Nat) : Bool := !decide (qs.getD (fa bs k) 0 = qs.getD k 0)
def unD (n : Nat) (qs : List Rat) (bs : List (List Nat)) : D := match fst (unAt qs bs) (2 ^ n) with
  | some k => .tup [lotT n (fa bs k), lotT n k]
  | none => .non
theorem deqv_fr (p q : Rat) : deqv (fr p) (fr q) = decide (p = q) := by
  show deqv (.tup [.int p.num, .int (p.den : Nat)]) (.tup [.int q.num, .int (q.den : Nat)]) = _
  rw [deqv_tup, deqvs_cons, deqvs_cons, deqvs_nil, deqv_int, deqv_int, Bool.and_true]
  by_cases c : p = q
  · subst c; simp
  · rw [decide_eq_false c]
    by_cases c1 : p.num = q.num
    · rw [decide_eq_true c1, Bool.true_and]
      refine decide_eq_false fun z => c (Rat.ext c1 (by omega))
    · rw [decide_eq_false c1]; rfl
theorem o_nefr (p q : Rat) (h : AH) : dNe (fr p) (fr q) h = .ok (.bl (!decide (p = q))) h := by
  show Res.ok (D.bl (!deqv (fr p) (fr q))) h = _
  rw [deqv_fr]
theorem below_unD (m n : Nat) (qs : List Rat) (bs : List (List Nat)) : below m (unD n qs bs) = true := by
  unfold unD
  split
  · show (below m (lotT n _) && (below m (lotT n _) && true)) = true
    rw [below_lotT, below_lotT]; rfl
  · rfl
theorem tup_lotL {n k : Nat} (hn : n ≤ 20) (hk : k < 2 ^ n) {f g : En → AH → Res D} {en : En} {h : AH} (ef : f en h = .ok (.int (n : Int)) h) (eg : g en h = .ok (.int (k : Int)) h) : dsp bTup (acons (bin ixD (cal [] 1 Fx_law_lots (acons f anil)) g) anil) en h = .ok (lotT n k) h := by
  have pll := pl_len n k
  rw [dsp1 (d := lotL n k) (lots_ix hn hk ef eg)]
  unfold lotL
  rw [a_bTupL, mkT_le (by rw [natsD_len]; omega)]
  rfl
theorem uneven_eq {n : Nat} (hn : n ≤ 6) {bs : List (List Nat)} (fw : Few n bs) {qs : List Rat} {h : AH} {d : D} (e : asS h d = some (qs.map fr)) (hl : qs.length = 2 ^ n) : Fx_law_uneven [.int (n : Int), blkD bs, d] h = .ok (unD n qs bs) h := by
  have pw : 2 ^ n ≤ 2 ^ 6 := Nat.pow_le_pow_right (by omega) hn
  have hw : wkR1 (dsp bLen (acons (var 2) anil)) [some (.int (n : Int)), some (blkD bs), some d, none, none] h = .ok ⟨rngI 0 1 (2 ^ n), []⟩ h := w_rng1 (by rw [dsp1 (d := d) rfl, len_of e, List.length_map, hl]) (by omega)
  have lp := for_first (b := seq (sSet 4 (cal [] 3 Fx_law_first_alike (acons (var 0) (acons (var 1) (acons (var 3) anil)))))
  (sIf (tcm dNe (bin ixD (var 2) (var 4)) (bin ixD (var 2) (var 3))) (sRet (dsp mkT (acons (dsp bTup (acons (bin ixD (cal [] 1 Fx_law_lots (acons (var 0) anil)) (var 4)) anil)) (acons (dsp bTup (acons (bin ixD (cal [] 1 Fx_law_lots (acons (var 0) anil)) (var 3)) anil)) anil)))) skip)) (j := 3) (n := 2 ^ n) (h := h) (fun en => ∃ x y, en = [some (.int (n : Int)), some (blkD bs), some d, x, y]) (unAt qs bs) (fun k => .tup [lotT n (fa bs k), lotT n k]) (en := [some (.int (n : Int)), some (blkD bs), some d, none, none]) ⟨_, _, rfl⟩ (by
    rintro k hk en ⟨x, y, rfl⟩
    have hf := fa_le bs k
    have s1 : sSet 4 (cal [] 3 Fx_law_first_alike (acons (var 0) (acons (var 1) (acons (var 3) anil)))) [some (.int (n : Int)), some (blkD bs), some d, some (.int (k : Int)), y] h = .nx [some (.int (n : Int)), some (blkD bs), some d, some (.int (k : Int)), some (.int (fa bs k : Nat))] h := set1 (by rw [cal3 (d := .int (n : Int)) (e := blkD bs) (x := .int (k : Int)) rfl rfl rfl, alike_eq (by omega) fw hk])
    have t : tcm dNe (bin ixD (var 2) (var 4)) (bin ixD (var 2) (var 3)) [some (.int (n : Int)), some (blkD bs), some d, some (.int (k : Int)), some (.int (fa bs k : Nat))] h = .ok (unAt qs bs k) h := tcm_ok (by
      rw [bin2 (d := fr (qs.getD (fa bs k) 0)) (e := fr (qs.getD k 0)) (h1 := h) (h2 := h) (by rw [bin2 (d := d) (e := .int (fa bs k : Nat)) rfl rfl, ix_asS e (by omega)]) (by rw [bin2 (d := d) (e := .int (k : Nat)) rfl rfl, ix_asS e (by omega)]), o_nefr]
      rfl)
    refine ⟨fun q => ?_, fun q => ⟨[some (.int (n : Int)), some (blkD bs), some d, some (.int (k : Int)), some (.int (fa bs k : Nat))], .inl ?_, _, _, rfl⟩⟩
    · rw [q] at t
      refine (seq1 s1).trans ((if1 t).trans (ret1 ?_))
      rw [dsp2 (d := lotT n (fa bs k)) (e := lotT n k) (h1 := h) (tup_lotL (by omega) (by omega) rfl rfl) (tup_lotL (by omega) hk rfl rfl), mkT_2]
    · rw [q] at t
      exact (seq1 s1).trans ((if0 t).trans rfl))
  refine f_ret (n := 5) (fb := mx_law_uneven) ?_ (below_unD _ _ _ _)
  unfold mx_law_uneven
  show seq _ _ [some (.int (n : Int)), some (blkD bs), some d, none, none] h = _
  rw [a_seq, a_for, hw, bindS_ok]
  show (forL [] (gN 3) _ (rngI 0 1 (2 ^ n)) [some (.int (n : Int)), some (blkD bs), some d, none, none] h).seq _ = _
  unfold unD
  rcases lp with ⟨f, en', e, z⟩ | ⟨k, f, e⟩
  · rw [e, f, seq_nx]; rfl
  · rw [e, f, seq_ret]
end Sh
/-! Plain laws, part 14: check_blocks. -/
namespace Sh
open PySem Cb
open scoped Rat

/-- how often each place was found -/
def foundL (n : Nat) (pre : List Nat) : List D := (List.range n).map fun i => .int ((pre.count i : Nat) : Int)
@[simp] theorem foundL_len (n : Nat) (pre : List Nat) : (foundL n pre).length = n := by simp [foundL]
theorem foundL_get {n i : Nat} (pre : List Nat) (hi : i < n) : (foundL n pre)[i]? = some (.int ((pre.count i : Nat) : Int)) := by
  unfold foundL
  rw [List.getElem?_map, List.getElem?_range hi]
  rfl
theorem foundL_zero (n : Nat) : (List.replicate n [D.int 0]).flatten = foundL n [] := by
  unfold foundL
  apply List.ext_getElem?
  intro i
  rw [List.flatten_replicate_singleton, List.getElem?_map, List.getElem?_replicate]
  by_cases c : i < n
  · rw [if_pos c, List.getElem?_range c]; rfl
  · rw [if_neg c, List.getElem?_eq_none (by simp; omega)]; rfl
theorem foundL_set {n i : Nat} (pre : List Nat) (hi : i < n) : (foundL n pre).set i (.int ((pre.count i : Nat) + 1 : Int)) = foundL n (pre ++ [i]) := by
  apply List.ext_getElem?
  intro j
  by_cases c : j < n
  · rw [foundL_get _ c]
    by_cases e : i = j
    · subst e
      rw [List.getElem?_set_self (by rw [foundL_len]; exact c), List.count_append]
      simp
    · rw [List.getElem?_set_ne e, foundL_get _ c, List.count_append, List.count_singleton]
      simp [e]
  · rw [List.getElem?_eq_none (by rw [List.length_set, foundL_len]; omega), List.getElem?_eq_none (by rw [foundL_len]; omega)]
theorem o_mulC {l : List D} {n : Nat} (hl : l.length * n ≤ 16777216) (hn : n < 1000000) (h : AH) : dMulC (.lst l) (.int (n : Int)) h = .ok (.ref h.length) (h ++ [.vals (List.replicate n l).flatten]) := by
  unfold dMulC
  have e : asM h (.lst l) = some l := rfl
  simp only [e, lim_val, Int.toNat_natCast, decide_eq_true (by omega : (n : Int) < 1000000), decide_eq_true (by omega : -1000000 < (n : Int)), decide_eq_true hl, Bool.and_self, cond_true]
theorem set_end' (h : AH) (l l' : List D) : (h ++ [Cell.vals l]).set h.length (.vals l') = h ++ [.vals l'] := set_end h _ _
theorem goSt_end {en : En} {h : AH} {l : List D} {i : Nat} {d : D} (hi : i < l.length) : goSt en (.ref h.length) (.int (i : Int)) d (h ++ [.vals l]) = .nx en (h ++ [.vals (l.set i d)]) := by
  have ix : L2.ixN l.length (i : Int) = some i := by
    unfold L2.ixN
    rw [if_pos (by omega), if_pos (by omega)]
    rfl
  have : stC (.ref h.length) (.int (i : Int)) d (h ++ [.vals l]) = some (h ++ [.vals (l.set i d)]) := by
    show (match cellL (h ++ [.vals l]) h.length with
      | some l0 => (L2.ixN l0.length (i : Int)).map fun j => (h ++ [Cell.vals l]).set h.length (Cell.vals (l0.set j d))
      | none => none) = _
    rw [cell_end]
    simp only [ix, Option.map_some, set_end']
  unfold goSt
  rw [this]
theorem gtC_end {h : AH} {l : List D} {i : Nat} {d : D} (g : l[i]? = some d) : gtC (.ref h.length) (.int (i : Int)) (h ++ [.vals l]) = .ok d (h ++ [.vals l]) := by
  show (match cellL (h ++ [Cell.vals l]) h.length with
    | some l0 => bif decide ((0 : Int) ≤ (i : Int)) then (match l0[(i : Int).toNat]? with
      | some d => Res.ok d (h ++ [Cell.vals l])
      | none => .stuck) else .stuck
    | none => .stuck) = _
  rw [cell_end]
  simp only [decide_eq_true (by omega : (0 : Int) ≤ (i : Int)), cond_true, Int.toNat_natCast, g]
noncomputable abbrev bfnd : En → AH → RS := seq (sIf (tor (tnot (tst (cal [] 1 Fis_whole (acons (var 4) anil)))) (tnot (tch dLe dLt (cI 0) (var 4) (var 1)))) (sRaise 7 (una dNeg (cI 1))) skip)
  (sAugS dAddI (var 2) (var 4) (cI 1))
theorem fnd_step {n i : Nat} (hi : i < n) (a b : D) {h : AH} (pre : List Nat) : bfnd [some a, some (.int (n : Int)), some (.ref h.length), some b, some (.int (i : Int))] (h ++ [.vals (foundL n pre)]) = .nx [some a, some (.int (n : Int)), some (.ref h.length), some b, some (.int (i : Int))] (h ++ [.vals (foundL n (pre ++ [i]))]) := by
  have t1 : tnot (tst (cal [] 1 Fis_whole (acons (var 4) anil))) [some a, some (.int (n : Int)), some (.ref h.length), some b, some (.int (i : Int))] (h ++ [.vals (foundL n pre)]) = .ok false (h ++ [.vals (foundL n pre)]) := tnot_ok (b := true) (tst_ok (by rw [cal1 (d := .int (i : Int)) rfl, whole_eq (tame_int _ _)]; rfl))
  have t2 : tnot (tch dLe dLt (cI 0) (var 4) (var 1)) [some a, some (.int (n : Int)), some (.ref h.length), some b, some (.int (i : Int))] (h ++ [.vals (foundL n pre)]) = .ok false (h ++ [.vals (foundL n pre)]) := by
    have z := tnot_ok (tch_ok (o := dLe) (o2 := dLt) (f := cI 0) (g := var 4) (k := var 1) (en := [some a, some (.int (n : Int)), some (.ref h.length), some b, some (.int (i : Int))]) (h := h ++ [.vals (foundL n pre)]) (x := .int 0) (y := .int (i : Int)) (z := .int (n : Int)) rfl rfl rfl (o_le _ _ _) (o_lt _ _ _))
    rw [decide_eq_true (by omega : (0 : Int) ≤ (i : Int)), decide_eq_true (by omega : (i : Int) < (n : Int))] at z
    exact z
  refine (seq1 (if0 ((tor_f t1).trans t2))).trans ?_
  rw [a_augS, var_s, var_s, var_z, bindS_ok, var_s, var_s, var_s, var_s, var_z, bindS_ok, gtC_end (foundL_get pre hi), bindS_ok]
  show goSt [some a, some (.int (n : Int)), some (.ref h.length), some b, some (.int (i : Int))] (.ref h.length) (.int (i : Int)) (.int (((pre.count i : Nat) : Int) + 1)) (h ++ [.vals (foundL n pre)]) = _
  rw [goSt_end (by rw [foundL_len]; exact hi), foundL_set pre hi]
/-- a loop over a list of places -/
theorem fnd_loop {n : Nat} (a b : D) {h : AH} : ∀ (l pre : List Nat), (∀ i ∈ l, i < n) → ∀ y, ∃ z, forL [] (gN 4) bfnd (natsD l) [some a, some (.int (n : Int)), some (.ref h.length), some b, y] (h ++ [.vals (foundL n pre)]) = .nx [some a, some (.int (n : Int)), some (.ref h.length), some b, z] (h ++ [.vals (foundL n (pre ++ l))])
  | [], pre, _, y => ⟨y, by rw [List.append_nil]; rfl⟩
  | i :: l, pre, hl, y => by
    obtain ⟨z, e⟩ := fnd_loop a b (h := h) l (pre ++ [i]) (fun j hj => hl j (by simp [hj])) (some (.int (i : Int)))
    refine ⟨z, ?_⟩
    show forL [] (gN 4) bfnd (.int (i : Int) :: natsD l) _ _ = _
    rw [forL_cons _ _ _ _ _ _ _ rfl]
    show (match bfnd [some a, some (.int (n : Int)), some (.ref h.length), some b, some (.int (i : Int))] (h ++ [.vals (foundL n pre)]) with
      | .nx en2 h2 => forL [] (gN 4) bfnd (natsD l) en2 h2
      | .cont en2 h2 => forL [] (gN 4) bfnd (natsD l) en2 h2
      | .brk en2 h2 => .nx en2 h2
      | r => r) = _
    rw [fnd_step (hl i (by simp)) a b pre]
    rw [List.append_assoc] at e
    exact e
noncomputable abbrev bblk : En → AH → RS := seq (sIf (tor (tnot (tst (una (isi2 .tup .lst) (var 3)))) (tnot (tst (var 3)))) (sRaise 7 (una dNeg (cI 1))) skip)
  (sFor (wS (var 3)) (gN 4) bfnd)
theorem blk_loop {n : Nat} (a : D) {h : AH} : ∀ (bs : List (List Nat)) (pre : List Nat), (∀ b ∈ bs, b ≠ [] ∧ ∀ i ∈ b, i < n) → ∀ x y, ∃ z w, forL [] (gN 3) bblk (bs.map fun b => .lst (natsD b)) [some a, some (.int (n : Int)), some (.ref h.length), x, y] (h ++ [.vals (foundL n pre)]) = .nx [some a, some (.int (n : Int)), some (.ref h.length), z, w] (h ++ [.vals (foundL n (pre ++ bs.flatten))])
  | [], pre, _, x, y => ⟨x, y, by rw [List.flatten_nil, List.append_nil]; rfl⟩
  | b :: bs, pre, hb, x, y => by
    obtain ⟨nb, lb⟩ := hb b (by simp)
    obtain ⟨w1, e1⟩ := fnd_loop a (.lst (natsD b)) (h := h) b pre lb y
    obtain ⟨z, w, e⟩ := blk_loop a (h := h) bs (pre ++ b) (fun c hc => hb c (by simp [hc])) (some (.lst (natsD b))) w1
    refine ⟨z, w, ?_⟩
    have t1 : tnot (tst (una (isi2 .tup .lst) (var 3))) [some a, some (.int (n : Int)), some (.ref h.length), some (.lst (natsD b)), y] (h ++ [.vals (foundL n pre)]) = .ok false (h ++ [.vals (foundL n pre)]) := tnot_ok (b := true) (tst_ok rfl)
    have t2 : tnot (tst (var 3)) [some a, some (.int (n : Int)), some (.ref h.length), some (.lst (natsD b)), y] (h ++ [.vals (foundL n pre)]) = .ok false (h ++ [.vals (foundL n pre)]) := by
      cases b with
      | nil => exact absurd rfl nb
      | cons i b => rfl
    have st : bblk [some a, some (.int (n : Int)), some (.ref h.length), some (.lst (natsD b)), y] (h ++ [.vals (foundL n pre)]) = .nx [some a, some (.int (n : Int)), some (.ref h.length), some (.lst (natsD b)), w1] (h ++ [.vals (foundL n (pre ++ b))]) := by
      refine (seq1 (if0 ((tor_f t1).trans t2))).trans ?_
      have hw : wS (var 3) [some a, some (.int (n : Int)), some (.ref h.length), some (.lst (natsD b)), y] (h ++ [.vals (foundL n pre)]) = .ok ⟨natsD b, []⟩ (h ++ [.vals (foundL n pre)]) := w_lst rfl
      rw [a_for, hw, bindS_ok]
      exact e1
    show forL [] (gN 3) bblk (.lst (natsD b) :: bs.map fun b => .lst (natsD b)) _ _ = _
    rw [forL_cons _ _ _ _ _ _ _ rfl]
    show (match bblk [some a, some (.int (n : Int)), some (.ref h.length), some (.lst (natsD b)), y] (h ++ [.vals (foundL n pre)]) with
      | .nx en2 h2 => forL [] (gN 3) bblk (bs.map fun b => .lst (natsD b)) en2 h2
      | .cont en2 h2 => forL [] (gN 3) bblk (bs.map fun b => .lst (natsD b)) en2 h2
      | .brk en2 h2 => .nx en2 h2
      | r => r) = _
    rw [st, List.flatten_cons]
    rw [List.append_assoc] at e
    exact e
theorem isort_same {l : List Int} (s : l.Pairwise (· ≤ ·)) : isort l = l := List.Perm.eq_of_pairwise (fun x y _ _ h1 h2 => Int.le_antisymm h1 h2) (isort_sorted l) s (isort_perm l)
theorem sort_nats {b : List Nat} (s : b.Pairwise (· ≤ ·)) (hl : b.length < 64) (h : AH) : bSort mkF [.lst (natsD b)] h = .ok (.lst (natsD b)) h := by
  have e : natsD b = (b.map fun (i : Nat) => (i : Int)).map D.int := by unfold natsD; rw [List.map_map]; rfl
  have s2 : (b.map fun (i : Nat) => (i : Int)).Pairwise (· ≤ ·) := by
    rw [List.pairwise_map]
    exact s.imp (by intro x y z; omega)
  rw [e]
  show (match intsOf ((b.map fun (i : Nat) => (i : Int)).map D.int) with
    | some ns => bif decide (ns.length < 64) then mkF ((isort ns).map D.int) h else .stuck
    | none => .stuck) = _
  rw [intsOf_map]
  simp only [List.length_map, decide_eq_true hl, cond_true, isort_same s2]
  exact mkF_le (by rw [List.length_map, List.length_map]; omega) h
/-- the blocks' shape -/
def Blk (n : Nat) (bs : List (List Nat)) : Prop := bs.length ≤ 60 ∧ ∀ b ∈ bs, b ≠ [] ∧ b.length ≤ 60 ∧ b.Pairwise (· ≤ ·) ∧ ∀ i ∈ b, i < n
theorem Blk.few {n : Nat} {bs : List (List Nat)} (h : Blk n bs) : Few n bs := ⟨by have := h.1; omega, fun b hb => ⟨by have := (h.2 b hb).2.1; omega, (h.2 b hb).2.2.2⟩⟩
def offAt (bs : List (List Nat)) (i : Nat) : Bool := !decide (bs.flatten.count i = 1)
theorem check_run {n : Nat} (h1 : 2 ≤ n) (h2 : n ≤ 6) {bs : List (List Nat)} (gb : Blk n bs) (h : AH) : Fcheck_blocks [blkD bs, .int (n : Int)] h = (match fst (offAt bs) n with
    | some i => .exc 7 (.int (i : Int)) h
    | none => .ok (tldD bs) h) := by
  have e1 : decide ((2 : Int) ≤ (n : Int)) = true := decide_eq_true (by omega)
  have e2 : decide ((n : Int) ≤ 6) = true := decide_eq_true (by omega)
  have s1 : sIf (tor (tnot (tst (cal [] 1 Fis_whole (acons (var 1) anil)))) (tnot (tch dLe dLe (cI 2) (var 1) (cI 6)))) (sRaise 0 (cS "size")) skip [some (blkD bs), some (.int (n : Int)), none, none, none] h = .nx [some (blkD bs), some (.int (n : Int)), none, none, none] h := by
    have t1 : tnot (tst (cal [] 1 Fis_whole (acons (var 1) anil))) [some (blkD bs), some (.int (n : Int)), none, none, none] h = .ok false h := tnot_ok (b := true) (tst_ok (by rw [cal1 (d := .int (n : Int)) rfl, whole_eq (tame_int _ _)]; rfl))
    have t2 := tnot_ok (tch_ok (o := dLe) (o2 := dLe) (f := cI 2) (g := var 1) (k := cI 6) (en := [some (blkD bs), some (.int (n : Int)), none, none, none]) (h := h) (x := .int 2) (y := .int (n : Int)) (z := .int 6) rfl rfl rfl (o_le _ _ _) (o_le _ _ _))
    rw [e1, e2] at t2
    exact if0 ((tor_f t1).trans t2)
  have s2 : sIf (tnot (tst (una (isi2 .tup .lst) (var 0)))) (sRaise 7 (una dNeg (cI 1))) skip [some (blkD bs), some (.int (n : Int)), none, none, none] h = .nx [some (blkD bs), some (.int (n : Int)), none, none, none] h := if0 (tnot_ok (b := true) (tst_ok rfl))
  have s3 : sSet 2 (bin dMulC (dsp mkF (acons (cI 0) anil)) (var 1)) [some (blkD bs), some (.int (n : Int)), none, none, none] h = .nx [some (blkD bs), some (.int (n : Int)), some (.ref h.length), none, none] (h ++ [.vals (foundL n [])]) := set1 (by
    rw [bin2 (d := .lst [.int 0]) (e := .int (n : Int)) (h1 := h) (h2 := h) rfl rfl]
    rw [o_mulC (by show 1 * n ≤ _; omega) (by omega), foundL_zero])
  obtain ⟨z, w, e4⟩ := blk_loop (n := n) (blkD bs) (h := h) bs [] (fun b hb => ⟨(gb.2 b hb).1, (gb.2 b hb).2.2.2⟩) none none
  rw [List.nil_append] at e4
  have s4 : sFor (wS (var 0)) (gN 3) bblk [some (blkD bs), some (.int (n : Int)), some (.ref h.length), none, none] (h ++ [.vals (foundL n [])]) = .nx [some (blkD bs), some (.int (n : Int)), some (.ref h.length), z, w] (h ++ [.vals (foundL n bs.flatten)]) := by
    have hw : wS (var 0) [some (blkD bs), some (.int (n : Int)), some (.ref h.length), none, none] (h ++ [.vals (foundL n [])]) = .ok ⟨bs.map fun b => .lst (natsD b), []⟩ (h ++ [.vals (foundL n [])]) := w_lst rfl
    rw [a_for, hw, bindS_ok]
    exact e4
  have lp := for_rng_or (n := n) (j := 4) (b := sIf (tcm dNe (bin ixD (var 2) (var 4)) (cI 1)) (sRaise 7 (var 4)) skip) (fun k en h' => fst (offAt bs) k = none ∧ (∃ w, en = [some (blkD bs), some (.int (n : Int)), some (.ref h.length), z, w]) ∧ h' = h ++ [.vals (foundL n bs.flatten)]) (fun r => ∃ k en, fst (offAt bs) n = some k ∧ r = .exc 7 (.int (k : Int)) en (h ++ [.vals (foundL n bs.flatten)])) (en := [some (blkD bs), some (.int (n : Int)), some (.ref h.length), z, w]) (h := h ++ [.vals (foundL n bs.flatten)]) ⟨rfl, ⟨_, rfl⟩, rfl⟩ (by
    rintro k hk en h' ⟨fn, ⟨w, rfl⟩, rfl⟩
    have t : tcm dNe (bin ixD (var 2) (var 4)) (cI 1) [some (blkD bs), some (.int (n : Int)), some (.ref h.length), z, some (.int (k : Int))] (h ++ [.vals (foundL n bs.flatten)]) = .ok (offAt bs k) (h ++ [.vals (foundL n bs.flatten)]) := tcm_ok (by
      rw [bin2 (d := .int ((bs.flatten.count k : Nat) : Int)) (e := .int 1) (h1 := h ++ [.vals (foundL n bs.flatten)]) (h2 := h ++ [.vals (foundL n bs.flatten)]) (by
        rw [bin2 (d := .ref h.length) (e := .int (k : Int)) rfl rfl]
        exact ix_nat _ (cell_end _ _) (foundL_get _ hk)) rfl, o_nei]
      have zz : decide (((bs.flatten.count k : Nat) : Int) = 1) = decide (bs.flatten.count k = 1) := decide_eq_decide.mpr (by omega)
      rw [zz]
      rfl)
    cases q : offAt bs k with
    | true =>
      rw [q] at t
      exact .inr (.inr ⟨_, _, _, _, (if1 t).trans rfl, k, _, fst_hit hk q fn, rfl⟩)
    | false =>
      rw [q] at t
      exact .inl ⟨_, _, .inl ((if0 t).trans rfl), by rw [fst_succ, fn, q]; rfl, ⟨_, rfl⟩, rfl⟩)
  have hw5 : wkR1 (var 1) [some (blkD bs), some (.int (n : Int)), some (.ref h.length), z, w] (h ++ [.vals (foundL n bs.flatten)]) = .ok ⟨rngI 0 1 n, []⟩ (h ++ [.vals (foundL n bs.flatten)]) := w_rng1 rfl (by omega)
  have st : mcheck_blocks (startE 5 [blkD bs, .int (n : Int)]) h = (forL [] (gN 4) (sIf (tcm dNe (bin ixD (var 2) (var 4)) (cI 1)) (sRaise 7 (var 4)) skip) (rngI 0 1 n) [some (blkD bs), some (.int (n : Int)), some (.ref h.length), z, w] (h ++ [.vals (foundL n bs.flatten)])).seq (sRet (dsp bTup (acons (lcF [3] (wS (var 0)) (gN 3) tyes (dsp bTup (acons (dsp (bSort mkF) (acons (var 3) anil)) anil))) anil))) := by
    unfold mcheck_blocks
    show seq _ _ [some (blkD bs), some (.int (n : Int)), none, none, none] h = _
    refine (seq1 s1).trans ((seq1 s2).trans ((seq1 s3).trans ((seq1 s4).trans ?_)))
    rw [a_seq, a_for, hw5, bindS_ok]
  rcases lp with ⟨en', h', e5, fn, ⟨w2, rfl⟩, rfl⟩ | ⟨k, en, fn, e5⟩
  · rw [fn]
    have cc := lcF_all (vs := [3]) (fi := wS (var 0)) (g := gN 3) (fe := dsp bTup (acons (dsp (bSort mkF) (acons (var 3) anil)) anil)) (en := [some (blkD bs), some (.int (n : Int)), some (.ref h.length), z, w2]) (h := h ++ [.vals (foundL n bs.flatten)]) (l := bs.map fun b => .lst (natsD b)) (src := []) (fun d => .tup (natsD (natsOf d))) (w_lst rfl) rfl (by rw [List.length_map]; have := gb.1; omega) (by
      intro d hd
      obtain ⟨b, hb, rfl⟩ := List.mem_map.mp hd
      refine ⟨_, rfl, ?_⟩
      obtain ⟨_, g2, g3, _⟩ := gb.2 b hb
      show dsp bTup _ [some (blkD bs), some (.int (n : Int)), some (.ref h.length), some (.lst (natsD b)), w2] _ = _
      rw [dsp1 (d := .lst (natsD b)) (h1 := h ++ [.vals (foundL n bs.flatten)]) (by rw [dsp1 (d := .lst (natsD b)) rfl, sort_nats g3 (by omega)]), a_bTupL, mkT_le (by rw [natsD_len]; omega), natsOf_lst])
    have e : (bs.map fun b => D.lst (natsD b)).map (fun d => D.tup (natsD (natsOf d))) = bs.map fun b => .tup (natsD b) := by
      rw [List.map_map]
      apply List.map_congr_left
      intro b _
      show D.tup (natsD (natsOf (.lst (natsD b)))) = _
      rw [natsOf_lst]
    rw [e] at cc
    refine f_drop (n := 5) (fb := mcheck_blocks) (s := [.vals (foundL n bs.flatten)]) ?_ ?_
    · rw [st, e5, seq_nx]
      refine ret1 ?_
      refine (dsp1 cc).trans ?_
      rw [a_bTupL, mkT_le (by rw [List.length_map]; have := gb.1; omega)]
      rfl
    · unfold tldD
      rw [below_tup]
      apply belows_iff.mpr
      intro d hd
      obtain ⟨b, _, rfl⟩ := List.mem_map.mp hd
      exact below_natsD _ _
  · rw [fn]
    refine f_dropX (n := 5) (fb := mcheck_blocks) (s := [.vals (foundL n bs.flatten)]) (en := en) sel0 ?_ rfl
    rw [st, e5, seq_exc]
end Sh
/-! Plain laws, part 15: counts_break. -/
namespace Sh
open PySem Cb
open scoped Rat

def keyOf (l : List Int) : List L2.Key := l.map Sum.inl
theorem intK_ints (l : List Int) : intK (l.map D.int) = some (keyOf l) := by
  induction l with
  | nil => rfl
  | cons i l ih => show (intK (l.map D.int)).map _ = _; rw [ih]; rfl
theorem keyOf_inj {a b : List Int} : keyOf a = keyOf b ↔ a = b := by
  constructor
  · intro h
    induction a generalizing b with
    | nil => cases b with
      | nil => rfl
      | cons j b => cases h
    | cons i a ih => cases b with
      | nil => cases h
      | cons j b =>
        have h : (Sum.inl i : L2.Key) :: keyOf a = Sum.inl j :: keyOf b := h
        have h1 := (List.cons.inj h).1
        have h2 := ih (List.cons.inj h).2
        rw [Sum.inl.inj h1, h2]
  · intro h; rw [h]
/-- the dict of first numbers -/
def firsts (bs : List (List Nat)) : Nat → List (List L2.Key × D)
  | 0 => []
  | k + 1 => if (fst (fun j => cnt bs j == cnt bs k) k).isSome then firsts bs k else firsts bs k ++ [(keyOf (cnt bs k), .int (k : Int))]
theorem valD_app {κ : Type} [DecidableEq κ] : ∀ (l : List (κ × D)) (k k2 : κ) (d : D), valD (l ++ [(k2, d)]) k = (valD l k).or (if k2 = k then some d else none)
  | [], k, k2, d => by
    show (if k2 = k then some d else valD [] k) = _
    rfl
  | p :: l, k, k2, d => by
    show (if p.1 = k then some p.2 else valD (l ++ [(k2, d)]) k) = (if p.1 = k then some p.2 else valD l k).or _
    by_cases c : p.1 = k
    · rw [if_pos c, if_pos c]; rfl
    · rw [if_neg c, if_neg c]; exact valD_app l k k2 d
theorem firsts_len (bs : List (List Nat)) : ∀ k, (firsts bs k).length ≤ k
  | 0 => Nat.le_refl _
  | k + 1 => by
    have := firsts_len bs k
    unfold firsts
    split
    · omega
    · rw [List.length_append]; show _ + 1 ≤ _; omega
theorem firsts_val (bs : List (List Nat)) : ∀ (k : Nat) (c : List Int), valD (firsts bs k) (keyOf c) = (fst (fun j => cnt bs j == c) k).map fun (j : Nat) => D.int (j : Int)
  | 0, c => rfl
  | k + 1, c => by
    have ih := firsts_val bs k
    rw [fst_succ]
    unfold firsts
    by_cases h : cnt bs k = c
    · subst h
      have hb : (cnt bs k == cnt bs k) = true := by simp
      cases q : fst (fun j => cnt bs j == cnt bs k) k with
      | some j => rw [if_pos (show (some j).isSome = true from rfl), ih, q, if_pos hb]; rfl
      | none => rw [if_neg (by simp), valD_app, ih, q, if_pos rfl, if_pos hb]; rfl
    · have hb : ¬ (cnt bs k == c) = true := by simpa using h
      rw [if_neg hb]
      split
      · rw [ih]; simp
      · rw [valD_app, ih, if_neg (fun z => h (keyOf_inj.mp z))]; simp
theorem fa_old {bs : List (List Nat)} {k j : Nat} (h : fst (fun j => cnt bs j == cnt bs k) k = some j) : fa bs k = j := by
  have z := fa_spec bs k
  rw [fst_succ, h] at z
  exact (Option.some.inj z).symm
theorem fa_new {bs : List (List Nat)} {k : Nat} (h : fst (fun j => cnt bs j == cnt bs k) k = none) : fa bs k = k := by
  have z := fa_spec bs k
  rw [fst_succ, h, if_pos (by simp)] at z
  exact (Option.some.inj z).symm
noncomputable abbrev bcnt : En → AH → RS := seq (sSet 7 (dSetT (var 5) (cal [] 2 Fcounts_of (acons (var 4) (acons (var 6) anil))) (var 6)))
  (sIf (tcm dNe (bin ixD (var 3) (var 6)) (bin ixD (var 3) (var 7))) (sRet (dsp mkT (acons (cal [] 1 Flot_from (acons (var 7) anil)) (acons (cal [] 1 Flot_from (acons (var 6) anil)) anil)))) skip)
theorem setd_eq {n : Nat} {bs : List (List Nat)} (fw : Few n bs) {k : Nat} (hk : k < 16777216) (a b c r : D) (y : Option D) (h : AH) :
    dSetT (var 5) (cal [] 2 Fcounts_of (acons (var 4) (acons (var 6) anil))) (var 6) [some a, some b, some c, some r, some (tldD bs), some (.ref h.length), some (.int (k : Int)), y] (h ++ [.dT (firsts bs k)]) = .ok (.int (fa bs k : Nat)) (h ++ [.dT (firsts bs (k + 1))]) := by
  have e1 : cal [] 2 Fcounts_of (acons (var 4) (acons (var 6) anil)) [some a, some b, some c, some r, some (tldD bs), some (.ref h.length), some (.int (k : Int)), y] (h ++ [.dT (firsts bs k)]) = .ok (cntD bs k) (h ++ [.dT (firsts bs k)]) := by
    rw [cal2 (d := tldD bs) (e := .int (k : Int)) rfl rfl, counts_of_eq fw]
  have g : (h ++ [Cell.dT (firsts bs k)])[h.length]? = some (.dT (firsts bs k)) := get_end _ _
  have l := firsts_len bs k
  have v := firsts_val bs k (cnt bs k)
  unfold dSetT
  rw [var_s, var_s, var_s, var_s, var_s, var_z, bind_ok]
  simp only [g]
  rw [e1, bind_ok, var_s, var_s, var_s, var_s, var_s, var_s, var_z, bind_ok]
  unfold cntD
  simp only [g, intK_ints, lim_val, decide_eq_true (by omega : (firsts bs k).length < 16777216), cond_true, v]
  cases q : fst (fun j => cnt bs j == cnt bs k) k with
  | some j =>
    have : firsts bs (k + 1) = firsts bs k := by
      show (if _ then _ else _) = _
      rw [q]; rfl
    rw [this, fa_old q]
    rfl
  | none =>
    have : firsts bs (k + 1) = firsts bs k ++ [(keyOf (cnt bs k), .int (k : Int))] := by
      show (if _ then _ else _) = _
      rw [q]; rfl
    rw [this, fa_new q]
    show Res.ok _ ((h ++ [Cell.dT (firsts bs k)]).set h.length _) = _
    rw [set_end]
theorem cbreak_eq {n m : Nat} (hm : m ≤ 4000) (h1 : 2 ≤ n) (h2 : n ≤ 6) {bs : List (List Nat)} (fw : Few n bs) {a b : D} {qs : List Rat} {h : AH} (ea : Fprize_of [a, .int (n : Int)] h = .ok (.tup (qs.map fr)) h) (eb : Fcheck_blocks [b, .int (n : Int)] h = .ok (tldD bs) h) (hl : qs.length = 2 ^ n) :
    Fcounts_break [a, b, .int (n : Int)] h = .ok (unD n qs bs) h := by
  have pw : 2 ^ n ≤ 2 ^ 6 := Nat.pow_le_pow_right (by omega) h2
  have s1 : sSet 3 (cal [] 2 Fprize_of (acons (var 0) (acons (var 2) anil))) [some a, some b, some (.int (n : Int)), none, none, none, none, none] h = .nx [some a, some b, some (.int (n : Int)), some (.tup (qs.map fr)), none, none, none, none] h := set1 (by rw [cal2 (d := a) (e := .int (n : Int)) rfl rfl, ea])
  have s2 : sSet 4 (cal [] 2 Fcheck_blocks (acons (var 1) (acons (var 2) anil))) [some a, some b, some (.int (n : Int)), some (.tup (qs.map fr)), none, none, none, none] h = .nx [some a, some b, some (.int (n : Int)), some (.tup (qs.map fr)), some (tldD bs), none, none, none] h := set1 (by rw [cal2 (d := b) (e := .int (n : Int)) rfl rfl, eb])
  have s3 : sSet 5 mkDT [some a, some b, some (.int (n : Int)), some (.tup (qs.map fr)), some (tldD bs), none, none, none] h = .nx [some a, some b, some (.int (n : Int)), some (.tup (qs.map fr)), some (tldD bs), some (.ref h.length), none, none] (h ++ [.dT (firsts bs 0)]) := set1 rfl
  have hw : wkR1 (bin dShl (cI 1) (var 2)) [some a, some b, some (.int (n : Int)), some (.tup (qs.map fr)), some (tldD bs), some (.ref h.length), none, none] (h ++ [.dT (firsts bs 0)]) = .ok ⟨rngI 0 1 (2 ^ n), []⟩ (h ++ [.dT (firsts bs 0)]) := w_rng1 (by rw [bin2 (d := .int 1) (e := .int (n : Int)) rfl rfl, two_pow_shl (by omega)]) (by omega)
  have lp := for_rng_or (n := 2 ^ n) (j := 6) (b := bcnt) (fun k en h' => fst (unAt qs bs) k = none ∧ (∃ x y, en = [some a, some b, some (.int (n : Int)), some (.tup (qs.map fr)), some (tldD bs), some (.ref h.length), x, y]) ∧ h' = h ++ [.dT (firsts bs k)]) (fun r => ∃ k s, fst (unAt qs bs) (2 ^ n) = some k ∧ r = .ret (.tup [lotT n (fa bs k), lotT n k]) (h ++ s)) (en := [some a, some b, some (.int (n : Int)), some (.tup (qs.map fr)), some (tldD bs), some (.ref h.length), none, none]) (h := h ++ [.dT (firsts bs 0)]) ⟨rfl, ⟨_, _, rfl⟩, rfl⟩ (by
    rintro k hk en h' ⟨fn, ⟨x, y, rfl⟩, rfl⟩
    have hf := fa_le bs k
    have t1 : sSet 7 (dSetT (var 5) (cal [] 2 Fcounts_of (acons (var 4) (acons (var 6) anil))) (var 6)) [some a, some b, some (.int (n : Int)), some (.tup (qs.map fr)), some (tldD bs), some (.ref h.length), some (.int (k : Int)), y] (h ++ [.dT (firsts bs k)]) = .nx [some a, some b, some (.int (n : Int)), some (.tup (qs.map fr)), some (tldD bs), some (.ref h.length), some (.int (k : Int)), some (.int (fa bs k : Nat))] (h ++ [.dT (firsts bs (k + 1))]) := set1 (setd_eq fw (by omega) _ _ _ _ _ _)
    have t2 : tcm dNe (bin ixD (var 3) (var 6)) (bin ixD (var 3) (var 7)) [some a, some b, some (.int (n : Int)), some (.tup (qs.map fr)), some (tldD bs), some (.ref h.length), some (.int (k : Int)), some (.int (fa bs k : Nat))] (h ++ [.dT (firsts bs (k + 1))]) = .ok (unAt qs bs k) (h ++ [.dT (firsts bs (k + 1))]) := tcm_ok (by
      rw [bin2 (d := fr (qs.getD k 0)) (e := fr (qs.getD (fa bs k) 0)) (h1 := h ++ [.dT (firsts bs (k + 1))]) (h2 := h ++ [.dT (firsts bs (k + 1))]) (by rw [bin2 (d := .tup (qs.map fr)) (e := .int (k : Int)) rfl rfl, ix_tupN _ (by omega)]) (by rw [bin2 (d := .tup (qs.map fr)) (e := .int (fa bs k : Nat)) rfl rfl, ix_tupN _ (by omega)]), o_nefr]
      unfold unAt
      rw [decide_eq_decide.mpr (eq_comm (a := qs.getD k 0) (b := qs.getD (fa bs k) 0))])
    cases q : unAt qs bs k with
    | true =>
      rw [q] at t2
      refine .inr (.inl ⟨_, _, (seq1 t1).trans ((if1 t2).trans (ret1 (d := .tup [lotT n (fa bs k), lotT n k]) (h1 := h ++ [.dT (firsts bs (k + 1))]) ?_)), k, _, fst_hit hk q fn, rfl⟩)
      rw [dsp2 (d := lotT n (fa bs k)) (e := lotT n k) (h1 := h ++ [.dT (firsts bs (k + 1))]) (h2 := h ++ [.dT (firsts bs (k + 1))]) (by rw [cal1 (d := .int (fa bs k : Nat)) rfl, lot_from_eq (n := n) (by omega) (by omega)]) (by rw [cal1 (d := .int (k : Int)) rfl, lot_from_eq hk (by omega)]), mkT_2]
    | false =>
      rw [q] at t2
      exact .inl ⟨_, _, .inl ((seq1 t1).trans ((if0 t2).trans rfl)), by rw [fst_succ, fn, q]; rfl, ⟨_, _, rfl⟩, rfl⟩)
  have st : mcounts_break (startE 8 [a, b, .int (n : Int)]) h = (forL [] (gN 6) bcnt (rngI 0 1 (2 ^ n)) [some a, some b, some (.int (n : Int)), some (.tup (qs.map fr)), some (tldD bs), some (.ref h.length), none, none] (h ++ [.dT (firsts bs 0)])).seq (sRet cN) := by
    unfold mcounts_break
    show seq _ _ [some a, some b, some (.int (n : Int)), none, none, none, none, none] h = _
    refine (seq1 s1).trans ((seq1 s2).trans ((seq1 s3).trans ?_))
    rw [a_seq, a_for, hw, bindS_ok]
  unfold Fcounts_break
  rcases lp with ⟨en', h', e5, fn, _, rfl⟩ | ⟨k, s, fn, e5⟩
  · refine f_drop (n := 8) (fb := mcounts_break) (s := [.dT (firsts bs (2 ^ n))]) ?_ (below_unD _ _ _ _)
    rw [st, e5, seq_nx]
    unfold unD
    rw [fn]
    rfl
  · refine f_drop (n := 8) (fb := mcounts_break) (s := s) ?_ (below_unD _ _ _ _)
    rw [st, e5, seq_ret]
    unfold unD
    rw [fn]
theorem cbreak_exc1 {a b n d : D} {c : Nat} {h : AH} (e : Fprize_of [a, n] h = .exc c d h) (bd : below h.length d = true) : Fcounts_break [a, b, n] h = .exc c d h := by
  refine f_exc (n := 8) (fb := mcounts_break) (en := [some a, some b, some n, none, none, none, none, none]) sel0 ?_ bd
  unfold mcounts_break
  show seq _ _ [some a, some b, some n, none, none, none, none, none] h = _
  rw [a_seq, a_set, cal2 (d := a) (e := n) rfl rfl, e]
  rfl
theorem cbreak_exc2 {a b n d p : D} {c : Nat} {h : AH} (ea : Fprize_of [a, n] h = .ok p h) (eb : Fcheck_blocks [b, n] h = .exc c d h) (bd : below h.length d = true) : Fcounts_break [a, b, n] h = .exc c d h := by
  refine f_exc (n := 8) (fb := mcounts_break) (en := [some a, some b, some n, some p, none, none, none, none]) sel0 ?_ bd
  have s1 : sSet 3 (cal [] 2 Fprize_of (acons (var 0) (acons (var 2) anil))) [some a, some b, some n, none, none, none, none, none] h = .nx [some a, some b, some n, some p, none, none, none, none] h := set1 (by rw [cal2 (d := a) (e := n) rfl rfl, ea])
  unfold mcounts_break
  show seq _ _ [some a, some b, some n, none, none, none, none, none] h = _
  refine (seq1 s1).trans ?_
  rw [a_seq, a_set, cal2 (d := b) (e := n) rfl rfl, eb]
  rfl
end Sh
/-! Plain laws, part 16: the pool. -/
namespace Sh
open PySem Cb
open scoped Rat

section
variable {f g : En → AH → Res D} {en : En} {h : AH} {i j : Int}
theorem x_add (e1 : f en h = .ok (.int i) h) (e2 : g en h = .ok (.int j) h) : bin dAdd f g en h = .ok (.int (i + j)) h := bin2 e1 e2
theorem x_sub (e1 : f en h = .ok (.int i) h) (e2 : g en h = .ok (.int j) h) : bin dSub f g en h = .ok (.int (i - j)) h := bin2 e1 e2
theorem x_mul {m n : Nat} (e1 : f en h = .ok (.int i) h) (e2 : g en h = .ok (.int j) h) (zi : Sz m i) (zj : Sz n j) (l : m + n ≤ 134217728 := by omega) : bin dMul f g en h = .ok (.int (i * j)) h := by rw [bin2 e1 e2, o_mul zi zj h l]
theorem x_mod (e1 : f en h = .ok (.int i) h) (e2 : g en h = .ok (.int j) h) (hj : 0 < j) : bin dMod f g en h = .ok (.int (i % j)) h := by rw [bin2 e1 e2, o_mod hj]
theorem x_div {n : Nat} (e1 : f en h = .ok (.int i) h) (e2 : g en h = .ok (.int j) h) (hj : 0 < j) (zj : Sz n j) (l : n ≤ 9000 := by omega) : bin dFdiv f g en h = .ok (.int (i / j)) h := by rw [bin2 e1 e2, o_div zj hj h l]
theorem x_int (e1 : f en h = .ok (.int i) h) : dsp bInt (acons f anil) en h = .ok (.int i) h := dsp1 e1
theorem x_lt (e1 : f en h = .ok (.int i) h) (e2 : g en h = .ok (.int j) h) : tcm dLt f g en h = .ok (decide (i < j)) h := tcm_ok (bin2 e1 e2)
theorem x_gt (e1 : f en h = .ok (.int i) h) (e2 : g en h = .ok (.int j) h) : tcm dGt f g en h = .ok (decide (j < i)) h := tcm_ok (bin2 e1 e2)
theorem x_ge (e1 : f en h = .ok (.int i) h) (e2 : g en h = .ok (.int j) h) : tcm dGe f g en h = .ok (decide (j ≤ i)) h := tcm_ok (bin2 e1 e2)
theorem x_eq (e1 : f en h = .ok (.int i) h) (e2 : g en h = .ok (.int j) h) : tcm dEq f g en h = .ok (decide (i = j)) h := tcm_ok (by rw [bin2 e1 e2, o_eqi])
end
theorem sz_lt {n : Nat} {i : Int} (h0 : 0 ≤ i) (h1 : i < 2 ^ n) : Sz n i := by
  unfold Sz
  have : ((i.natAbs : Nat) : Int) < ((2 ^ n : Nat) : Int) := by rw [Int.natCast_pow, Int.natAbs_of_nonneg h0]; exact h1
  exact Int.ofNat_lt.mp this
abbrev ph (ps : List Int) : AH := [.vals (ps.map D.int)]
theorem app_pool {fe : En → AH → Res D} {en : En} {ps : List Int} {i : Int} (e0 : var 1 en (ph ps) = .ok (.ref 0) (ph ps)) (e : fe en (ph ps) = .ok (.int i) (ph ps)) (hl : ps.length < 16777216) : sExpr (met1 oApp (var 1) fe) en (ph ps) = .nx en (ph (ps ++ [i])) := by
  rw [expr1 (a_app (k := 0) (l0 := ps.map D.int) (l := ps.map D.int) (h2 := ph ps) e0 rfl e rfl (by rw [List.length_map]; exact hl))]
  show RS.nx en [Cell.vals (ps.map D.int ++ [D.int i])] = _
  rw [show ps.map D.int ++ [D.int i] = (ps ++ [i]).map D.int from by rw [List.map_append]; rfl]
noncomputable abbrev bp1 : En → AH → RS := sIf (tcm dGt (var 3) (cI 0)) (seq (sExpr (met1 oApp (var 1) (bin dMod (dsp bInt (acons (var 3) anil)) (cI 30))))
  (sSet 3 (bin dFdiv (var 3) (cI 30)))) skip
theorem p1_step (s a x w : D) (w' : Option D) {ps : List Int} {c : Int} (hl : ps.length < 16777216) : ∃ ps' c', ps'.length ≤ ps.length + 1 ∧ bp1 [some s, some (.ref 0), some a, some (.int c), some x, w'] (ph ps) = .nx [some s, some (.ref 0), some a, some (.int c'), some x, w'] (ph ps') := by
  have t : tcm dGt (var 3) (cI 0) [some s, some (.ref 0), some a, some (.int c), some x, w'] (ph ps) = .ok (decide (0 < c)) (ph ps) := x_gt rfl rfl
  by_cases hc : 0 < c
  · rw [decide_eq_true hc] at t
    have e1 := app_pool (fe := bin dMod (dsp bInt (acons (var 3) anil)) (cI 30)) (en := [some s, some (.ref 0), some a, some (.int c), some x, w']) (ps := ps) (i := c % 30) rfl (x_mod (x_int rfl) rfl (by omega)) hl
    have e2 : sSet 3 (bin dFdiv (var 3) (cI 30)) [some s, some (.ref 0), some a, some (.int c), some x, w'] (ph (ps ++ [c % 30])) = .nx [some s, some (.ref 0), some a, some (.int (c / 30)), some x, w'] (ph (ps ++ [c % 30])) := set1 (x_div (n := 5) rfl rfl (by omega) (by unfold Sz; decide))
    exact ⟨ps ++ [c % 30], c / 30, by simp, (if1 t).trans ((seq1 e1).trans e2)⟩
  · rw [decide_eq_false hc] at t
    exact ⟨ps, c, by omega, (if0 t).trans rfl⟩
noncomputable abbrev bp2 : En → AH → RS := seq (sSet 5 (bin dMod (dsp bInt (acons (bin dAdd (bin dAdd (bin dMul (var 5) (var 5)) (bin dMul (bin dAdd (var 4) (cI 3)) (cI 7919))) (var 3)) anil)) (cI 1000033)))
  (seq (sSet 5 (bin dMod (dsp bInt (acons (bin dAdd (bin dAdd (bin dMul (var 5) (cI 40014)) (var 2)) (var 4)) anil)) (cI 1000037)))
  (sExpr (met1 oApp (var 1) (bin dFdiv (var 5) (cI 5)))))
theorem p2_step (s : D) {ps : List Int} {a c t x : Int} (hl : ps.length < 16777216) (ht : 0 ≤ t ∧ t < 10) (hx : Sz 21 x) : ∃ i x', Sz 21 x' ∧ bp2 [some s, some (.ref 0), some (.int a), some (.int c), some (.int t), some (.int x)] (ph ps) = .nx [some s, some (.ref 0), some (.int a), some (.int c), some (.int t), some (.int x')] (ph (ps ++ [i])) := by
  have e1 : sSet 5 (bin dMod (dsp bInt (acons (bin dAdd (bin dAdd (bin dMul (var 5) (var 5)) (bin dMul (bin dAdd (var 4) (cI 3)) (cI 7919))) (var 3)) anil)) (cI 1000033)) [some s, some (.ref 0), some (.int a), some (.int c), some (.int t), some (.int x)] (ph ps) = .nx [some s, some (.ref 0), some (.int a), some (.int c), some (.int t), some (.int ((x * x + (t + 3) * 7919 + c) % 1000033))] (ph ps) :=
    set1 (x_mod (x_int (x_add (x_add (x_mul (m := 21) (n := 21) rfl rfl hx hx) (x_mul (m := 4) (n := 13) (x_add rfl rfl) rfl (sz_lt (by omega) (by omega)) (by unfold Sz; decide))) rfl)) rfl (by omega))
  generalize hy : (x * x + (t + 3) * 7919 + c) % 1000033 = y at e1
  have hy1 : 0 ≤ y ∧ y < 1000033 := by rw [← hy]; exact ⟨Int.emod_nonneg _ (by omega), Int.emod_lt_of_pos _ (by omega)⟩
  have e2 : sSet 5 (bin dMod (dsp bInt (acons (bin dAdd (bin dAdd (bin dMul (var 5) (cI 40014)) (var 2)) (var 4)) anil)) (cI 1000037)) [some s, some (.ref 0), some (.int a), some (.int c), some (.int t), some (.int y)] (ph ps) = .nx [some s, some (.ref 0), some (.int a), some (.int c), some (.int t), some (.int ((y * 40014 + a + t) % 1000037))] (ph ps) :=
    set1 (x_mod (x_int (x_add (x_add (x_mul (m := 21) (n := 16) rfl rfl (sz_lt hy1.1 (by omega)) (by unfold Sz; decide)) rfl) rfl)) rfl (by omega))
  generalize hz : (y * 40014 + a + t) % 1000037 = z at e2
  have hz1 : 0 ≤ z ∧ z < 1000037 := by rw [← hz]; exact ⟨Int.emod_nonneg _ (by omega), Int.emod_lt_of_pos _ (by omega)⟩
  have e3 := app_pool (fe := bin dFdiv (var 5) (cI 5)) (en := [some s, some (.ref 0), some (.int a), some (.int c), some (.int t), some (.int z)]) (ps := ps) (i := z / 5) rfl (x_div (n := 3) rfl rfl (by omega) (by unfold Sz; decide)) hl
  exact ⟨z / 5, z, sz_lt hz1.1 (by omega), (seq1 e1).trans ((seq1 e2).trans e3)⟩
noncomputable abbrev bpool : En → AH → RS := seq (sSet 3 (dsp bInt (acons (bin ixD (var 0) (var 2)) anil)))
  (seq (sIf (tcm dLt (var 3) (cI 0)) (sSet 3 (bin dSub (cI 1) (bin dMul (cI 2) (var 3)))) skip)
  (sIf (tcm dGe (var 3) (bin dPow (cI 10) (cI 18))) (sFor (wkR1 (cI 50)) (gN 4) bp1) (seq (sSet 5 (bin dMod (dsp bInt (acons (bin dAdd (bin dAdd (bin dMul (var 3) (cI 39373)) (bin dMul (var 2) (cI 10007))) (cI 17)) anil)) (cI 1000003)))
  (sFor (wkR1 (cI 6)) (gN 4) bp2))))
theorem ten18 : Sz 60 (10 ^ 18 : Int) := by unfold Sz; decide
theorem pool_step (ns : List Int) (hz : ∀ z ∈ ns, Builtin.Int.intBits z ≤ 1048576) {k : Nat} (hk : k < ns.length) (hk2 : k < 100) (x y w : Option D) {ps : List Int} (hl : ps.length ≤ 50 * k) : ∃ ps' x' y' w', ps'.length ≤ 50 * (k + 1) ∧ bpool [some (.fix ns), some (.ref 0), some (.int (k : Int)), x, y, w] (ph ps) = .nx [some (.fix ns), some (.ref 0), some (.int (k : Int)), x', y', w'] (ph ps') := by
  have hc : Sz 1048576 ns[k] := sz_bits (hz _ (List.getElem_mem hk))
  generalize hc0 : ns[k] = c0 at hc
  have e1 : sSet 3 (dsp bInt (acons (bin ixD (var 0) (var 2)) anil)) [some (.fix ns), some (.ref 0), some (.int (k : Int)), x, y, w] (ph ps) = .nx [some (.fix ns), some (.ref 0), some (.int (k : Int)), some (.int c0), y, w] (ph ps) := set1 (x_int (by
    rw [bin2 (d := .fix ns) (e := .int (k : Int)) rfl rfl]
    exact ix_nat _ (l := ns.map D.int) rfl (by rw [List.getElem?_map, List.getElem?_eq_getElem hk, hc0]; rfl)))
  have e2 : ∃ c : Int, 0 ≤ c ∧ sIf (tcm dLt (var 3) (cI 0)) (sSet 3 (bin dSub (cI 1) (bin dMul (cI 2) (var 3)))) skip [some (.fix ns), some (.ref 0), some (.int (k : Int)), some (.int c0), y, w] (ph ps) = .nx [some (.fix ns), some (.ref 0), some (.int (k : Int)), some (.int c), y, w] (ph ps) := by
    have t : tcm dLt (var 3) (cI 0) [some (.fix ns), some (.ref 0), some (.int (k : Int)), some (.int c0), y, w] (ph ps) = .ok (decide (c0 < 0)) (ph ps) := x_lt rfl rfl
    by_cases hs : c0 < 0
    · rw [decide_eq_true hs] at t
      exact ⟨1 - 2 * c0, by omega, (if1 t).trans (set1 (x_sub rfl (x_mul (m := 2) (n := 1048576) rfl rfl (by unfold Sz; decide) hc)))⟩
    · rw [decide_eq_false hs] at t
      exact ⟨c0, by omega, (if0 t).trans rfl⟩
  obtain ⟨c, hc1, e2⟩ := e2
  have t : tcm dGe (var 3) (bin dPow (cI 10) (cI 18)) [some (.fix ns), some (.ref 0), some (.int (k : Int)), some (.int c), y, w] (ph ps) = .ok (decide ((10 : Int) ^ 18 ≤ c)) (ph ps) := x_ge rfl (by
    rw [bin2 (d := .int 10) (e := .int 18) rfl rfl]
    exact o_pow (i := 10) (k := 18) (by omega) (by decide) _)
  by_cases hb : (10 : Int) ^ 18 ≤ c
  · rw [decide_eq_true hb] at t
    obtain ⟨en', h', e3, ⟨ps', c', y', l', rfl, rfl⟩⟩ := for_rng (n := 50) (j := 4) (b := bp1) (fun j en h' => ∃ ps' c' y', ps'.length ≤ 50 * k + j ∧ en = [some (.fix ns), some (.ref 0), some (.int (k : Int)), some (.int c'), y', w] ∧ h' = ph ps') (en := [some (.fix ns), some (.ref 0), some (.int (k : Int)), some (.int c), y, w]) (h := ph ps) ⟨ps, c, y, by omega, rfl, rfl⟩ (by
      rintro j hj en h' ⟨ps', c', y', l', rfl, rfl⟩
      obtain ⟨ps2, c2, l2, e⟩ := p1_step (.fix ns) (.int (k : Int)) (.int (j : Int)) .non w (ps := ps') (c := c') (by omega)
      exact ⟨_, _, .inl e, ps2, c2, _, by omega, rfl, rfl⟩)
    refine ⟨ps', some (.int c'), y', w, by omega, (seq1 e1).trans ((seq1 e2).trans ((if1 t).trans ?_))⟩
    have hw : wkR1 (cI 50) [some (.fix ns), some (.ref 0), some (.int (k : Int)), some (.int c), y, w] (ph ps) = .ok ⟨rngI 0 1 50, []⟩ (ph ps) := w_rng1 (n := 50) rfl (by omega)
    rw [a_for, hw, bindS_ok]
    exact e3
  · rw [decide_eq_false hb] at t
    have e4 : sSet 5 (bin dMod (dsp bInt (acons (bin dAdd (bin dAdd (bin dMul (var 3) (cI 39373)) (bin dMul (var 2) (cI 10007))) (cI 17)) anil)) (cI 1000003)) [some (.fix ns), some (.ref 0), some (.int (k : Int)), some (.int c), y, w] (ph ps) = .nx [some (.fix ns), some (.ref 0), some (.int (k : Int)), some (.int c), y, some (.int ((c * 39373 + (k : Int) * 10007 + 17) % 1000003))] (ph ps) :=
      set1 (x_mod (x_int (x_add (x_add (x_mul (m := 60) (n := 16) rfl rfl (sz_lt hc1 (by omega)) (by unfold Sz; decide)) (x_mul (m := 10) (n := 14) rfl rfl (sz_lt (by omega) (by omega)) (by unfold Sz; decide))) rfl)) rfl (by omega))
    generalize hm : (c * 39373 + (k : Int) * 10007 + 17) % 1000003 = m at e4
    have hm1 : 0 ≤ m ∧ m < 1000003 := by rw [← hm]; exact ⟨Int.emod_nonneg _ (by omega), Int.emod_lt_of_pos _ (by omega)⟩
    obtain ⟨en', h', e3, ⟨ps', c', y', l', z', rfl, rfl⟩⟩ := for_rng (n := 6) (j := 4) (b := bp2) (fun j en h' => ∃ ps' y' m', ps'.length ≤ 50 * k + j ∧ Sz 21 m' ∧ en = [some (.fix ns), some (.ref 0), some (.int (k : Int)), some (.int c), y', some (.int m')] ∧ h' = ph ps') (en := [some (.fix ns), some (.ref 0), some (.int (k : Int)), some (.int c), y, some (.int m)]) (h := ph ps) ⟨ps, y, m, by omega, sz_lt hm1.1 (by omega), rfl, rfl⟩ (by
      rintro j hj en h' ⟨ps', y', m', l', z', rfl, rfl⟩
      obtain ⟨i, x', z2, e⟩ := p2_step (.fix ns) (ps := ps') (a := (k : Int)) (c := c) (t := (j : Int)) (x := m') (by omega) (by omega) z'
      exact ⟨_, _, .inl e, ps' ++ [i], _, x', by rw [List.length_append]; show _ + 1 ≤ _; omega, z2, rfl, rfl⟩)
    refine ⟨ps', some (.int c), c', some (.int y'), by omega, (seq1 e1).trans ((seq1 e2).trans ((if0 t).trans ((seq1 e4).trans ?_)))⟩
    have hw : wkR1 (cI 6) [some (.fix ns), some (.ref 0), some (.int (k : Int)), some (.int c), y, some (.int m)] (ph ps) = .ok ⟨rngI 0 1 6, []⟩ (ph ps) := w_rng1 (n := 6) rfl (by omega)
    rw [a_for, hw, bindS_ok]
    exact e3
theorem f_kept0 {n : Nat} {fb : En → AH → RS} {ds : List D} {l : List D} (e : fb (startE n ds) [] = .ret (.ref 0) [.vals l]) (b : belows 0 l = true) : fnm sel1 n fb ds [] = .ok (.ref 0) [.vals l] := by
  have g : gcOk [] [Cell.vals l] := gcOk_app (gcOk_refl []) [.vals l]
  have z : frz 6 [Cell.vals l] 0 [0] (.ref 0) = some (.ref 0) := by
    unfold frz
    rw [below_ref, if_neg (by simp)]
    simp [posOf]
  have kc : keptC [Cell.vals l] 0 [0] 0 = some (.vals l) := by
    unfold keptC
    show (mapO (frz 6 [Cell.vals l] 0 [0]) l).map Cell.vals = _
    rw [mapO_frz b]
    rfl
  have s1 : sel1 0 [Cell.vals l] (.ref 0) = [0] := rfl
  have cond2 : gcOk [] [Cell.vals l] ∧ (∀ k ∈ sel1 ([] : AH).length [Cell.vals l] (.ref 0), ([] : AH).length ≤ k ∧ k < [Cell.vals l].length) ∧ (sel1 ([] : AH).length [Cell.vals l] (.ref 0)).Nodup := by
    refine ⟨g, fun k hk => ?_, ?_⟩
    · have : k = 0 := by
        have hk : k ∈ [0] := hk
        simpa using hk
      subst this
      exact ⟨Nat.le_refl _, Nat.zero_lt_one⟩
    · show [0].Nodup
      simp
  unfold fnm
  rw [e]
  show gcR sel1 [] (.ok (.ref 0) [Cell.vals l]) = _
  unfold gcR
  simp only [if_pos cond2]
  have hl : ([] : AH).length = 0 := rfl
  simp only [hl, s1, z, mapO, kc]
  rfl
theorem pool_eq (ns : List Int) (hl : ns.length ≤ 63) (hz : ∀ z ∈ ns, Builtin.Int.intBits z ≤ 1048576) : ∃ ps : List Int, Fx_law_pool [.fix ns] [] = .ok (.ref 0) (hp ps []) := by
  obtain ⟨en', h', e3, ⟨ps, x, y, z, w, l', rfl, rfl⟩⟩ := for_rng (n := ns.length) (j := 2) (b := bpool) (fun j en h' => ∃ ps x y z w, ps.length ≤ 50 * j ∧ en = [some (.fix ns), some (.ref 0), x, y, z, w] ∧ h' = ph ps) (en := [some (.fix ns), some (.ref 0), none, none, none, none]) (h := ph []) ⟨[], none, none, none, none, by simp, rfl, rfl⟩ (by
    rintro k hk en h' ⟨ps, x, y, z, w, l', rfl, rfl⟩
    obtain ⟨ps', x', y', w', l2, e⟩ := pool_step ns hz hk (by omega) y z w l'
    exact ⟨_, _, .inl e, ps', _, x', y', w', l2, rfl, rfl⟩)
  refine ⟨ps.reverse, f_kept0 (n := 6) (fb := mx_law_pool) (l := ps.reverse.map D.int) ?_ (belows_ints _)⟩
  have s1 : sSet 1 (dsp mkC anil) [some (.fix ns), none, none, none, none, none] [] = .nx [some (.fix ns), some (.ref 0), none, none, none, none] (ph []) := set1 rfl
  have hw : wkR1 (dsp bMin2 (acons (cI 63) (acons (dsp bLen (acons (var 0) anil)) anil))) [some (.fix ns), some (.ref 0), none, none, none, none] (ph []) = .ok ⟨rngI 0 1 ns.length, []⟩ (ph []) := w_rng1 (by
    rw [dsp2 (d := .int 63) (e := .int (ns.length : Nat)) (h1 := ph []) (h2 := ph []) rfl (by rw [dsp1 (d := .fix ns) rfl, a_lenF]), o_min2]
    congr 2
    split <;> omega) (by omega)
  unfold mx_law_pool
  show seq _ _ [some (.fix ns), none, none, none, none, none] [] = _
  refine (seq1 s1).trans ?_
  rw [a_seq, a_for, hw, bindS_ok]
  show (forL [] (gN 2) bpool (rngI 0 1 ns.length) [some (.fix ns), some (.ref 0), none, none, none, none] (ph [])).seq _ = _
  rw [e3, seq_nx]
  have s2 : sExpr (met0 oRev (var 1)) [some (.fix ns), some (.ref 0), x, y, z, w] (ph ps) = .nx [some (.fix ns), some (.ref 0), x, y, z, w] (ph ps.reverse) := by
    refine expr1 (d := .non) ?_
    show Res.ok D.non [Cell.vals (ps.map D.int).reverse] = _
    rw [← List.map_reverse]
  refine (seq1 s2).trans ?_
  rfl
end Sh
/-! Plain laws, part 17: size, prize. -/
namespace Sh
open PySem Cb
open scoped Rat

theorem x_tab {f g : En → AH → Res D} {en : En} {h h' : AH} {l : List Int} {i : Int} (e1 : f en h = .ok (.lst (l.map D.int)) h) (e2 : g en h = .ok (.int i) h') (i0 : 0 ≤ i) (i1 : i < l.length) : ∃ v, v ∈ l ∧ bin ixD f g en h = .ok (.int v) h' := by
  obtain ⟨k, rfl⟩ : ∃ k : Nat, i = (k : Int) := ⟨i.toNat, by omega⟩
  have hk : k < l.length := by omega
  refine ⟨l[k], List.getElem_mem hk, ?_⟩
  rw [bin2 e1 e2]
  exact ix_nat h' (l := l.map D.int) rfl (by rw [List.getElem?_map, List.getElem?_eq_getElem hk]; rfl)
theorem size_eq (ns : List Int) (r : AH) : ∃ n : Nat, 2 ≤ n ∧ n ≤ 5 ∧ Fx_law_size [.ref 0, .int 5] (hp ns r) = .ok (.int (n : Int)) (hp ns.dropLast r) := by
  obtain ⟨v, hv, e⟩ := x_tab (f := dsp mkF (acons (cI 3) (acons (cI 2) (acons (cI 3) (acons (cI 4) (acons (cI 3) (acons (cI 4) (acons (cI 5) (acons (cI 3) anil))))))))) (g := cal [] 2 Fx_law_pick (acons (var 0) (acons (cI 8) anil))) (en := [some (.ref 0), some (.int 5)]) (h := hp ns r) (h' := hp ns.dropLast r) (l := [3, 2, 3, 4, 3, 4, 5, 3]) (i := pk ns 8) rfl (by rw [cal2 (d := .ref 0) (e := .int 8) rfl rfl, pick_eq _ _ (by omega)]) (pk_lo (by omega)) (pk_hi (by omega))
  have hv2 : v = 2 ∨ v = 3 ∨ v = 4 ∨ v = 5 := by simp at hv; omega
  have key : Fx_law_size [.ref 0, .int 5] (hp ns r) = .ok (.int v) (hp ns.dropLast r) := by
    refine f_hp (n := 2) (fb := mx_law_size) ?_ rfl
    unfold mx_law_size
    refine ret1 ?_
    refine (dsp2 (d := .int 5) rfl e).trans ?_
    rw [o_min2]
    rcases hv2 with rfl | rfl | rfl | rfl <;> rfl
  rcases hv2 with rfl | rfl | rfl | rfl
  · exact ⟨2, by omega, by omega, key⟩
  · exact ⟨3, by omega, by omega, key⟩
  · exact ⟨4, by omega, by omega, key⟩
  · exact ⟨5, by omega, by omega, key⟩
noncomputable abbrev bprz : En → AH → RS := seq (sSet 5 (cal [] 2 Fx_law_pick (acons (var 0) (acons (cI 30) anil))))
  (seq (sSet 6 (bin ixD (dsp mkF (acons (cI 0) (acons (cI 4) (acons (cI 1) (acons (cI 6) (acons (cI 2) (acons (cI 0) (acons (cI 3) (acons (cI 9) anil))))))))) (bin dMod (dsp bInt (acons (bin dAdd (var 5) (var 4)) anil)) (cI 8))))
  (seq (sSet 7 (cI 1))
  (seq (sIf (tcm dEq (var 2) (cI 1)) (sSet 7 (bin dAdd (cI 1) (bin dMod (dsp bInt (acons (var 5) anil)) (cI 4)))) (sIf (tcm dEq (var 2) (cI 2)) (sSet 6 (bin ixD (dsp mkF (acons (una dNeg (cI 7)) (acons (cI 0) (acons (cI 5) (acons (una dNeg (cI 2)) (acons (cI 11) anil)))))) (bin dMod (dsp bInt (acons (bin dAdd (var 5) (var 4)) anil)) (cI 5)))) (sIf (tcm dEq (var 2) (cI 3)) (sSet 6 (bin dAdd (bin dMul (var 6) (bin dPow (cI 10) (cI 12))) (var 5))) (sIf (tcm dEq (var 2) (cI 4)) (sSet 6 (bin ixD (dsp mkF (acons (cI 0) (acons (cI 0) (acons (cI 0) (acons (cI 12) anil))))) (bin dMod (dsp bInt (acons (var 5) anil)) (cI 4)))) skip))))
  (sExpr (met1 oApp (var 3) (cal [] 2 Fx_law_low (acons (var 6) (acons (var 7) anil))))))))
theorem sz_small {v : Int} {l : List Int} (h : v ∈ l) (s : ∀ v ∈ l, v.natAbs < 2 ^ 4) : Sz 4 v := s v h
theorem prz_step (ns : List Int) (r : AH) (n w : Int) {qs : List Rat} (k : Nat) (x y z : Option D) (hl : qs.length < 1000) : ∃ q : Rat, Qz 62 q ∧ ∃ x' y' z', bprz [some (.ref 0), some (.int n), some (.int w), some (.ref (r.length + 1)), some (.int (k : Int)), x, y, z] (hp ns (r ++ [.vals (qs.map fr)])) = .nx [some (.ref 0), some (.int n), some (.int w), some (.ref (r.length + 1)), some (.int (k : Int)), x', y', z'] (hp ns.dropLast (r ++ [.vals ((qs ++ [q]).map fr)])) := by
  have e1 : sSet 5 (cal [] 2 Fx_law_pick (acons (var 0) (acons (cI 30) anil))) [some (.ref 0), some (.int n), some (.int w), some (.ref (r.length + 1)), some (.int (k : Int)), x, y, z] (hp ns (r ++ [.vals (qs.map fr)])) = .nx [some (.ref 0), some (.int n), some (.int w), some (.ref (r.length + 1)), some (.int (k : Int)), some (.int (pk ns 30)), y, z] (hp ns.dropLast (r ++ [.vals (qs.map fr)])) := set1 (by rw [cal2 (d := .ref 0) (e := .int 30) rfl rfl, pick_eq _ _ (by omega)])
  have o1 : 0 ≤ pk ns 30 := pk_lo (by omega)
  have o2 : pk ns 30 < 30 := pk_hi (by omega)
  generalize pk ns 30 = o at e1 o1 o2
  generalize hh : hp ns.dropLast (r ++ [.vals (qs.map fr)]) = h at e1
  obtain ⟨t, ht, e2⟩ := x_tab (f := dsp mkF (acons (cI 0) (acons (cI 4) (acons (cI 1) (acons (cI 6) (acons (cI 2) (acons (cI 0) (acons (cI 3) (acons (cI 9) anil))))))))) (g := bin dMod (dsp bInt (acons (bin dAdd (var 5) (var 4)) anil)) (cI 8)) (en := [some (.ref 0), some (.int n), some (.int w), some (.ref (r.length + 1)), some (.int (k : Int)), some (.int o), y, z]) (h := h) (h' := h) (l := [0, 4, 1, 6, 2, 0, 3, 9]) (i := (o + (k : Int)) % 8) rfl (x_mod (x_int (x_add rfl rfl)) rfl (by omega)) (Int.emod_nonneg _ (by omega)) (Int.emod_lt_of_pos _ (by omega))
  have zt : Sz 4 t := sz_small ht (by decide)
  have e3 : ∃ t' b' : Int, Sz 61 t' ∧ 1 ≤ b' ∧ b' ≤ 4 ∧ sIf (tcm dEq (var 2) (cI 1)) (sSet 7 (bin dAdd (cI 1) (bin dMod (dsp bInt (acons (var 5) anil)) (cI 4)))) (sIf (tcm dEq (var 2) (cI 2)) (sSet 6 (bin ixD (dsp mkF (acons (una dNeg (cI 7)) (acons (cI 0) (acons (cI 5) (acons (una dNeg (cI 2)) (acons (cI 11) anil)))))) (bin dMod (dsp bInt (acons (bin dAdd (var 5) (var 4)) anil)) (cI 5)))) (sIf (tcm dEq (var 2) (cI 3)) (sSet 6 (bin dAdd (bin dMul (var 6) (bin dPow (cI 10) (cI 12))) (var 5))) (sIf (tcm dEq (var 2) (cI 4)) (sSet 6 (bin ixD (dsp mkF (acons (cI 0) (acons (cI 0) (acons (cI 0) (acons (cI 12) anil))))) (bin dMod (dsp bInt (acons (var 5) anil)) (cI 4)))) skip))) [some (.ref 0), some (.int n), some (.int w), some (.ref (r.length + 1)), some (.int (k : Int)), some (.int o), some (.int t), some (.int 1)] h = .nx [some (.ref 0), some (.int n), some (.int w), some (.ref (r.length + 1)), some (.int (k : Int)), some (.int o), some (.int t'), some (.int b')] h := by
    have c := fun (j : Int) => x_eq (f := var 2) (g := cI j) (en := [some (.ref 0), some (.int n), some (.int w), some (.ref (r.length + 1)), some (.int (k : Int)), some (.int o), some (.int t), some (.int 1)]) (h := h) (i := w) (j := j) rfl rfl
    by_cases w1 : w = 1
    · have c1 := c 1
      rw [decide_eq_true w1] at c1
      have a := Int.emod_nonneg o (by omega : (4 : Int) ≠ 0)
      have b := Int.emod_lt_of_pos o (by omega : (0 : Int) < 4)
      exact ⟨t, 1 + o % 4, zt.mono (by omega), by omega, by omega, (if1 c1).trans (set1 (x_add rfl (x_mod (x_int rfl) rfl (by omega))))⟩
    · have c1 := c 1
      rw [decide_eq_false w1] at c1
      by_cases w2 : w = 2
      · have c2 := c 2
        rw [decide_eq_true w2] at c2
        obtain ⟨t2, ht2, e⟩ := x_tab (f := dsp mkF (acons (una dNeg (cI 7)) (acons (cI 0) (acons (cI 5) (acons (una dNeg (cI 2)) (acons (cI 11) anil)))))) (g := bin dMod (dsp bInt (acons (bin dAdd (var 5) (var 4)) anil)) (cI 5)) (en := [some (.ref 0), some (.int n), some (.int w), some (.ref (r.length + 1)), some (.int (k : Int)), some (.int o), some (.int t), some (.int 1)]) (h := h) (h' := h) (l := [-7, 0, 5, -2, 11]) (i := (o + (k : Int)) % 5) rfl (x_mod (x_int (x_add rfl rfl)) rfl (by omega)) (Int.emod_nonneg _ (by omega)) (Int.emod_lt_of_pos _ (by omega))
        exact ⟨t2, 1, (sz_small ht2 (by decide)).mono (by omega), by omega, by omega, (if0 c1).trans ((if1 c2).trans (set1 e))⟩
      · have c2 := c 2
        rw [decide_eq_false w2] at c2
        by_cases w3 : w = 3
        · have c3 := c 3
          rw [decide_eq_true w3] at c3
          have zp : Sz 40 ((10 : Int) ^ 12) := by unfold Sz; decide
          have zo : Sz 60 o := sz_lt o1 (by omega)
          exact ⟨t * 10 ^ 12 + o, 1, ((zt.mul zp).mono (by omega : 4 + 40 ≤ 60)).add zo, by omega, by omega, (if0 c1).trans ((if0 c2).trans ((if1 c3).trans (set1 (x_add (x_mul (m := 4) (n := 40) rfl (by
            rw [bin2 (d := .int 10) (e := .int 12) rfl rfl]
            exact o_pow (i := 10) (k := 12) (by omega) (by decide) _) zt zp) rfl))))⟩
        · have c3 := c 3
          rw [decide_eq_false w3] at c3
          by_cases w4 : w = 4
          · have c4 := c 4
            rw [decide_eq_true w4] at c4
            obtain ⟨t2, ht2, e⟩ := x_tab (f := dsp mkF (acons (cI 0) (acons (cI 0) (acons (cI 0) (acons (cI 12) anil))))) (g := bin dMod (dsp bInt (acons (var 5) anil)) (cI 4)) (en := [some (.ref 0), some (.int n), some (.int w), some (.ref (r.length + 1)), some (.int (k : Int)), some (.int o), some (.int t), some (.int 1)]) (h := h) (h' := h) (l := [0, 0, 0, 12]) (i := o % 4) rfl (x_mod (x_int rfl) rfl (by omega)) (Int.emod_nonneg _ (by omega)) (Int.emod_lt_of_pos _ (by omega))
            exact ⟨t2, 1, (sz_small ht2 (by decide)).mono (by omega), by omega, by omega, (if0 c1).trans ((if0 c2).trans ((if0 c3).trans ((if1 c4).trans (set1 e))))⟩
          · have c4 := c 4
            rw [decide_eq_false w4] at c4
            exact ⟨t, 1, zt.mono (by omega), by omega, by omega, (if0 c1).trans ((if0 c2).trans ((if0 c3).trans ((if0 c4).trans rfl)))⟩
  obtain ⟨t', b', zt', b1, b4, e3⟩ := e3
  have zb : Sz 61 b' := (sz_lt (n := 3) (by omega) (by omega)).mono (by omega)
  have el : cal [] 2 Fx_law_low (acons (var 6) (acons (var 7) anil)) [some (.ref 0), some (.int n), some (.int w), some (.ref (r.length + 1)), some (.int (k : Int)), some (.int o), some (.int t'), some (.int b')] h = .ok (fr (t' /. b')) h := by
    rw [cal2 (d := .int t') (e := .int b') rfl rfl, low_eq (by omega : 61 ≤ 9000) zt' zb (by omega)]
  have cl : cellL h (r.length + 1) = some (qs.map fr) := by
    rw [← hh]
    show cellL (r ++ [.vals (qs.map fr)]) r.length = _
    exact cell_end _ _
  have e4 : sExpr (met1 oApp (var 3) (cal [] 2 Fx_law_low (acons (var 6) (acons (var 7) anil)))) [some (.ref 0), some (.int n), some (.int w), some (.ref (r.length + 1)), some (.int (k : Int)), some (.int o), some (.int t'), some (.int b')] h = .nx [some (.ref 0), some (.int n), some (.int w), some (.ref (r.length + 1)), some (.int (k : Int)), some (.int o), some (.int t'), some (.int b')] (hp ns.dropLast (r ++ [.vals ((qs ++ [t' /. b']).map fr)])) := by
    rw [expr1 (a_app (k := r.length + 1) (l0 := qs.map fr) (l := qs.map fr) rfl cl el cl (by rw [List.length_map]; omega))]
    rw [← hh, List.map_append]
    show RS.nx _ (Cell.vals _ :: (r ++ [Cell.vals (qs.map fr)]).set r.length _) = _
    rw [set_end]
    rfl
  refine ⟨t' /. b', (Qz.div zt' zb (by omega)).mono (by omega), _, _, _, (seq1 e1).trans ((seq1 (set1 e2)).trans ((seq1 (set1 rfl)).trans ((seq1 e3).trans e4)))⟩
theorem prize_eq {n : Nat} (h2 : n ≤ 6) (ns : List Int) (r : AH) : ∃ (ns' : List Int) (qs : List Rat), qs.length = 2 ^ n ∧ (∀ q ∈ qs, Qz 62 q) ∧ Fx_law_prize [.ref 0, .int (n : Int)] (hp ns r) = .ok (.ref (r.length + 1)) (hp ns' (r ++ [.vals (qs.map fr)])) := by
  have pw : 2 ^ n ≤ 2 ^ 6 := Nat.pow_le_pow_right (by omega) h2
  have e1 : sSet 2 (cal [] 2 Fx_law_pick (acons (var 0) (acons (cI 6) anil))) [some (.ref 0), some (.int (n : Int)), none, none, none, none, none, none] (hp ns r) = .nx [some (.ref 0), some (.int (n : Int)), some (.int (pk ns 6)), none, none, none, none, none] (hp ns.dropLast r) := set1 (by rw [cal2 (d := .ref 0) (e := .int 6) rfl rfl, pick_eq _ _ (by omega)])
  have e2 : sSet 3 (dsp mkC anil) [some (.ref 0), some (.int (n : Int)), some (.int (pk ns 6)), none, none, none, none, none] (hp ns.dropLast r) = .nx [some (.ref 0), some (.int (n : Int)), some (.int (pk ns 6)), some (.ref (r.length + 1)), none, none, none, none] (hp ns.dropLast (r ++ [.vals (([] : List Rat).map fr)])) := set1 rfl
  obtain ⟨en', h', e3, ⟨ns', qs, x, y, z, w, l', zq, rfl, rfl⟩⟩ := for_rng (n := 2 ^ n) (j := 4) (b := bprz) (fun j en h' => ∃ ns' qs x y z w, qs.length = j ∧ (∀ q ∈ qs, Qz 62 q) ∧ en = [some (.ref 0), some (.int (n : Int)), some (.int (pk ns 6)), some (.ref (r.length + 1)), x, y, z, w] ∧ h' = hp ns' (r ++ [.vals (qs.map fr)])) (en := [some (.ref 0), some (.int (n : Int)), some (.int (pk ns 6)), some (.ref (r.length + 1)), none, none, none, none]) (h := hp ns.dropLast (r ++ [.vals (([] : List Rat).map fr)])) ⟨_, [], none, none, none, none, rfl, by simp, rfl, rfl⟩ (by
    rintro k hk en h' ⟨ns', qs, x, y, z, w, l', zq, rfl, rfl⟩
    obtain ⟨q, zq2, x', y', z', e⟩ := prz_step ns' r n (pk ns 6) (qs := qs) k y z w (by omega)
    refine ⟨_, _, .inl e, _, qs ++ [q], _, x', y', z', by rw [List.length_append, l']; rfl, ?_, rfl, rfl⟩
    intro p hp
    rcases List.mem_append.mp hp with hp | hp
    · exact zq p hp
    · rw [List.mem_singleton.mp hp]; exact zq2)
  refine ⟨ns', qs, l', zq, f_kept (n := 8) (fb := mx_law_prize) ?_ (below_frs _ _)⟩
  have hw : wkR1 (dsp bLen (acons (cal [] 1 Fx_law_lots (acons (var 1) anil)) anil)) [some (.ref 0), some (.int (n : Int)), some (.int (pk ns 6)), some (.ref (r.length + 1)), none, none, none, none] (hp ns.dropLast (r ++ [.vals (([] : List Rat).map fr)])) = .ok ⟨rngI 0 1 (2 ^ n), []⟩ (hp ns.dropLast (r ++ [.vals (([] : List Rat).map fr)])) := w_rng1 (by
    rw [dsp1 (d := .lst (lots n)) (h1 := hp ns.dropLast (r ++ [.vals (([] : List Rat).map fr)])) (by rw [cal1 (d := .int (n : Int)) rfl, lots_eq (by omega)]), a_lenL, lots_len]) (by omega)
  unfold mx_law_prize
  show seq _ _ [some (.ref 0), some (.int (n : Int)), none, none, none, none, none, none] (hp ns r) = _
  refine (seq1 e1).trans ((seq1 e2).trans ?_)
  rw [a_seq, a_for, hw, bindS_ok]
  show (forL [] (gN 4) bprz (rngI 0 1 (2 ^ n)) [some (.ref 0), some (.int (n : Int)), some (.int (pk ns 6)), some (.ref (r.length + 1)), none, none, none, none] (hp ns.dropLast (r ++ [.vals (([] : List Rat).map fr)]))).seq _ = _
  rw [e3, seq_nx]
  rfl
end Sh
/-! Plain laws, part 18: some blocks. -/
namespace Sh
open PySem Cb
open scoped Rat

def refs (a m : Nat) : List D := (List.range m).map fun j => D.ref (a + j)
@[simp] theorem refs_len (a m : Nat) : (refs a m).length = m := by simp [refs]
theorem refs_succ (a m : Nat) : refs a (m + 1) = refs a m ++ [.ref (a + m)] := by unfold refs; rw [List.range_succ, List.map_append]; rfl
theorem refs_get {a m j : Nat} (h : j < m) : (refs a m)[j]? = some (.ref (a + j)) := by unfold refs; rw [List.getElem?_map, List.getElem?_range h]; rfl
def cells (bs : List (List Nat)) : AH := bs.map fun b => .vals (natsD b)
@[simp] theorem cells_len (bs : List (List Nat)) : (cells bs).length = bs.length := by simp [cells]
theorem count_set (bs : List (List Nat)) : ∀ (j : Nat) (b : List Nat) (k i : Nat), bs[j]? = some b → (bs.set j (b ++ [k])).flatten.count i = bs.flatten.count i + (if i = k then 1 else 0) := by
  induction bs with
  | nil => intro j b k i h; simp at h
  | cons c bs ih =>
    intro j b k i h
    cases j with
    | zero =>
      have : c = b := by simpa using h
      subst this
      rw [List.set_cons_zero, List.flatten_cons, List.flatten_cons, List.count_append, List.count_append, List.count_append, List.count_singleton]
      by_cases e : i = k
      · subst e; simp; omega
      · have : (k == i) = false := by simp; omega
        rw [this, if_neg e]; simp
    | succ j =>
      rw [List.set_cons_succ, List.flatten_cons, List.flatten_cons, List.count_append, List.count_append, ih j b k i (by simpa using h)]
      omega
/-- what the blocks are behind the places below k -/
def BlkAt (k : Nat) (bs : List (List Nat)) : Prop := bs ≠ [] ∧ bs.length ≤ k ∧ (∀ b ∈ bs, b ≠ [] ∧ b.length ≤ k ∧ b.Pairwise (· ≤ ·) ∧ ∀ i ∈ b, i < k) ∧ ∀ i, bs.flatten.count i = if i < k then 1 else 0
theorem blk_new {k : Nat} {bs : List (List Nat)} (g : BlkAt k bs) : BlkAt (k + 1) (bs ++ [[k]]) := by
  obtain ⟨g1, g2, g3, g4⟩ := g
  refine ⟨by simp, by rw [List.length_append]; show _ + 1 ≤ _; omega, ?_, ?_⟩
  · intro b hb
    rcases List.mem_append.mp hb with hb | hb
    · obtain ⟨a1, a2, a3, a4⟩ := g3 b hb
      exact ⟨a1, by omega, a3, fun i hi => by have := a4 i hi; omega⟩
    · rw [List.mem_singleton.mp hb]
      exact ⟨by simp, by show 1 ≤ _; omega, by simp, fun i hi => by rw [List.mem_singleton.mp hi]; omega⟩
  · intro i
    rw [List.flatten_append, List.count_append, g4]
    show _ + [k].count i = _
    rw [List.count_singleton]
    by_cases e : i = k
    · subst e; simp
    · have : (k == i) = false := by simp; omega
      rw [this, if_neg (by simp : ¬ (false = true))]
      by_cases c : i < k
      · rw [if_pos c, if_pos (by omega)]
      · rw [if_neg c, if_neg (by omega)]
theorem blk_more {k j : Nat} {b : List Nat} {bs : List (List Nat)} (g : BlkAt k bs) (h : bs[j]? = some b) : BlkAt (k + 1) (bs.set j (b ++ [k])) := by
  obtain ⟨g1, g2, g3, g4⟩ := g
  have hb0 : b ∈ bs := List.mem_of_getElem? h
  refine ⟨fun z => g1 (by simpa using z), by rw [List.length_set]; omega, ?_, ?_⟩
  · intro c hc
    rcases List.mem_or_eq_of_mem_set hc with hc | rfl
    · obtain ⟨a1, a2, a3, a4⟩ := g3 c hc
      exact ⟨a1, by omega, a3, fun i hi => by have := a4 i hi; omega⟩
    · obtain ⟨a1, a2, a3, a4⟩ := g3 b hb0
      refine ⟨by simp, by rw [List.length_append]; show _ + 1 ≤ _; omega, ?_, ?_⟩
      · rw [List.pairwise_append]
        refine ⟨a3, by simp, fun x hx y hy => ?_⟩
        rw [List.mem_singleton.mp hy]
        have := a4 x hx
        omega
      · intro i hi
        rcases List.mem_append.mp hi with hi | hi
        · have := a4 i hi; omega
        · rw [List.mem_singleton.mp hi]; omega
  · intro i
    rw [count_set bs j b k i h, g4]
    by_cases e : i = k
    · subst e; simp
    · rw [if_neg e]
      by_cases c : i < k
      · rw [if_pos c, if_pos (by omega)]
      · rw [if_neg c, if_neg (by omega)]
noncomputable abbrev bsb : En → AH → RS := seq (sSet 4 (cal [] 2 Fx_law_pick (acons (var 0) (acons (cI 3) anil))))
  (sIf (tcm dEq (var 4) (cI 2)) (sSet 2 (bin dAdd (var 2) (dsp mkF (acons (dsp mkC (acons (var 3) anil)) anil)))) (seq (sSet 5 (bin ixD (var 2) (bin dMod (dsp bInt (acons (var 4) anil)) (dsp bLen (acons (var 2) anil)))))
  (sExpr (met1 oApp (var 5) (var 3)))))
theorem cells_get {bs : List (List Nat)} {r : AH} {j : Nat} {b : List Nat} {ns : List Int} (h : bs[j]? = some b) : cellL (hp ns (r ++ cells bs)) (r.length + 1 + j) = some (natsD b) := by
  have : (hp ns (r ++ cells bs))[r.length + 1 + j]? = some (.vals (natsD b)) := by
    show (Cell.vals _ :: (r ++ cells bs))[r.length + 1 + j]? = _
    rw [show r.length + 1 + j = (r.length + j) + 1 by omega, List.getElem?_cons_succ, List.getElem?_append_right (by omega), show r.length + j - r.length = j by omega]
    unfold cells
    rw [List.getElem?_map, h]
    rfl
  unfold cellL
  rw [this]
theorem cells_set (bs : List (List Nat)) (r : AH) (j : Nat) (b : List Nat) (ns : List Int) : (hp ns (r ++ cells bs)).set (r.length + 1 + j) (.vals (natsD b)) = hp ns (r ++ cells (bs.set j b)) := by
  show (Cell.vals _ :: (r ++ cells bs)).set (r.length + 1 + j) _ = Cell.vals _ :: _
  rw [show r.length + 1 + j = (r.length + j) + 1 by omega, List.set_cons_succ, List.set_append_right _ _ (by omega), show r.length + j - r.length = j by omega]
  unfold cells
  rw [List.map_set]
theorem sb_step (ns : List Int) (r : AH) (n : Int) {k : Nat} (hk : k ≤ 50) {bs : List (List Nat)} (g : BlkAt k bs) (y z : Option D) : ∃ bs' y' z', BlkAt (k + 1) bs' ∧ bsb [some (.ref 0), some (.int n), some (.lst (refs (r.length + 1) bs.length)), some (.int (k : Int)), y, z] (hp ns (r ++ cells bs)) = .nx [some (.ref 0), some (.int n), some (.lst (refs (r.length + 1) bs'.length)), some (.int (k : Int)), y', z'] (hp ns.dropLast (r ++ cells bs')) := by
  have e1 : sSet 4 (cal [] 2 Fx_law_pick (acons (var 0) (acons (cI 3) anil))) [some (.ref 0), some (.int n), some (.lst (refs (r.length + 1) bs.length)), some (.int (k : Int)), y, z] (hp ns (r ++ cells bs)) = .nx [some (.ref 0), some (.int n), some (.lst (refs (r.length + 1) bs.length)), some (.int (k : Int)), some (.int (pk ns 3)), z] (hp ns.dropLast (r ++ cells bs)) := set1 (by rw [cal2 (d := .ref 0) (e := .int 3) rfl rfl, pick_eq _ _ (by omega)])
  have o1 : 0 ≤ pk ns 3 := pk_lo (by omega)
  generalize pk ns 3 = o at e1 o1
  have t : tcm dEq (var 4) (cI 2) [some (.ref 0), some (.int n), some (.lst (refs (r.length + 1) bs.length)), some (.int (k : Int)), some (.int o), z] (hp ns.dropLast (r ++ cells bs)) = .ok (decide (o = 2)) (hp ns.dropLast (r ++ cells bs)) := x_eq rfl rfl
  have hb := g.2.1
  have hn : 0 < bs.length := List.length_pos_iff.mpr g.1
  by_cases c : o = 2
  · rw [decide_eq_true c] at t
    refine ⟨bs ++ [[k]], some (.int o), z, blk_new g, (seq1 e1).trans ((if1 t).trans ?_)⟩
    have m1 : dsp mkF (acons (dsp mkC (acons (var 3) anil)) anil) [some (.ref 0), some (.int n), some (.lst (refs (r.length + 1) bs.length)), some (.int (k : Int)), some (.int o), z] (hp ns.dropLast (r ++ cells bs)) = .ok (.lst [.ref (r.length + 1 + bs.length)]) (hp ns.dropLast (r ++ cells (bs ++ [[k]]))) := by
      rw [dsp1 (d := .ref (r.length + 1 + bs.length)) (h1 := hp ns.dropLast (r ++ cells (bs ++ [[k]]))) (by
        rw [dsp1 (d := .int (k : Int)) rfl, mkC_1]
        have e : (hp ns.dropLast (r ++ cells bs)).length = r.length + 1 + bs.length := by
          show (r ++ cells bs).length + 1 = _
          rw [List.length_append, cells_len]; omega
        have e2 : hp ns.dropLast (r ++ cells bs) ++ [.vals [.int (k : Int)]] = hp ns.dropLast (r ++ cells (bs ++ [[k]])) := by
          rw [app_hp, List.append_assoc]
          unfold cells
          rw [List.map_append]
          rfl
        rw [e, e2]), mkF_1]
    refine set1 (d := .lst (refs (r.length + 1) (bs ++ [[k]]).length)) (h1 := hp ns.dropLast (r ++ cells (bs ++ [[k]]))) ?_
    rw [bin2 (d := .lst (refs (r.length + 1) bs.length)) rfl m1, o_addL (by rw [refs_len]; show _ + 1 ≤ _; omega), List.length_append]
    show Res.ok (D.lst _) _ = Res.ok (D.lst (refs (r.length + 1) (bs.length + 1))) _
    rw [refs_succ]
  · rw [decide_eq_false c] at t
    have jb0 := Int.emod_nonneg o (by omega : (bs.length : Int) ≠ 0)
    have jb1 := Int.emod_lt_of_pos o (by omega : (0 : Int) < (bs.length : Int))
    obtain ⟨j, hj⟩ : ∃ j : Nat, o % (bs.length : Int) = (j : Int) := ⟨(o % (bs.length : Int)).toNat, by omega⟩
    have hj2 : j < bs.length := by omega
    have gb : bs[j]? = some bs[j] := List.getElem?_eq_getElem hj2
    refine ⟨bs.set j (bs[j] ++ [k]), some (.int o), some (.ref (r.length + 1 + j)), blk_more g gb, (seq1 e1).trans ((if0 t).trans ?_)⟩
    have e2 : sSet 5 (bin ixD (var 2) (bin dMod (dsp bInt (acons (var 4) anil)) (dsp bLen (acons (var 2) anil)))) [some (.ref 0), some (.int n), some (.lst (refs (r.length + 1) bs.length)), some (.int (k : Int)), some (.int o), z] (hp ns.dropLast (r ++ cells bs)) = .nx [some (.ref 0), some (.int n), some (.lst (refs (r.length + 1) bs.length)), some (.int (k : Int)), some (.int o), some (.ref (r.length + 1 + j))] (hp ns.dropLast (r ++ cells bs)) := set1 (by
      rw [bin2 (d := .lst (refs (r.length + 1) bs.length)) (e := .int (j : Int)) (h1 := hp ns.dropLast (r ++ cells bs)) (h2 := hp ns.dropLast (r ++ cells bs)) rfl (by
        rw [← hj]
        exact x_mod (x_int rfl) (by rw [dsp1 (d := .lst (refs (r.length + 1) bs.length)) rfl, a_lenL, refs_len]) (by omega))]
      exact ix_nat _ rfl (refs_get hj2))
    refine (seq1 e2).trans ?_
    have cl := cells_get (r := r) (ns := ns.dropLast) gb
    have lb := (g.2.2.1 bs[j] (List.getElem_mem hj2)).2.1
    rw [expr1 (a_app (k := r.length + 1 + j) (l0 := natsD bs[j]) (l := natsD bs[j]) (d := .int (k : Int)) (h2 := hp ns.dropLast (r ++ cells bs)) rfl cl rfl cl (by rw [natsD_len]; omega)), ← natsD_app, cells_set, List.length_set]
theorem frz_refs {h : AH} {n m : Nat} : ∀ (bs : List (List Nat)) (a : Nat), (∀ j b, bs[j]? = some b → h[n + a + j]? = some (.vals (natsD b))) → mapO (frz 5 h n []) ((List.range bs.length).map fun j => D.ref (n + a + j)) = some (bs.map fun b => .lst (natsD b))
  | [], a, _ => rfl
  | b :: bs, a, hb => by
    rw [List.length_cons, List.range_succ_eq_map, List.map_cons, List.map_map]
    show ((frz 5 h n [] (.ref (n + a + 0))).bind fun x => (mapO (frz 5 h n []) _).map fun l => x :: l) = _
    have e1 : frz 5 h n [] (.ref (n + a + 0)) = some (.lst (natsD b)) := by
      unfold frz
      rw [below_ref, if_neg (by simp)]
      simp only [posOf, hb 0 b rfl, mapO_frz (below_natsD _ _)]
      rfl
    have e2 := frz_refs (h := h) (n := n) (m := m) bs (a + 1) (fun j c hc => by
      rw [show n + (a + 1) + j = n + a + (j + 1) by omega]
      exact hb (j + 1) c (by simpa using hc))
    have e3 : ((List.range bs.length).map ((fun j => D.ref (n + a + j)) ∘ Nat.succ)) = (List.range bs.length).map fun j => D.ref (n + (a + 1) + j) := by
      apply List.map_congr_left
      intro j _
      show D.ref (n + a + (j + 1)) = _
      rw [show n + a + (j + 1) = n + (a + 1) + j by omega]
    rw [e1, e3, e2]
    rfl
theorem w_rng2 {fa fb : En → AH → Res D} {en : En} {h : AH} {i j : Int} (e1 : fa en h = .ok (.int i) h) (e2 : fb en h = .ok (.int j) h) (hi : -1000000 ≤ i ∧ i ≤ 1000000) (hj : -1000000 ≤ j ∧ j ≤ 1000000) : wkR2 fa fb en h = .ok ⟨rngI i 1 (j - i).toNat, []⟩ h := by
  unfold wkR2
  rw [e1, bind_ok, e2, bind_ok]
  simp only [decide_eq_true (by omega : j < 4611686018427387904), decide_eq_true (by omega : -4611686018427387904 ≤ j), decide_eq_true (by omega : i < 4611686018427387904), decide_eq_true (by omega : -4611686018427387904 ≤ i), Bool.and_self, cond_true]
theorem blocks_eq {n : Nat} (h1 : 2 ≤ n) (h2 : n ≤ 6) (ns : List Int) (r : AH) : ∃ (ns' : List Int) (bs : List (List Nat)), BlkAt n bs ∧ Fx_law_some_blocks [.ref 0, .int (n : Int)] (hp ns r) = .ok (blkD bs) (hp ns' r) := by
  have g0 : BlkAt 1 [[0]] := ⟨by simp, by simp, by intro b hb; rw [List.mem_singleton.mp hb]; exact ⟨by simp, Nat.le_refl 1, by simp, fun i hi => by rw [List.mem_singleton.mp hi]; omega⟩, fun i => by
    show [0].count i = _
    rw [List.count_singleton]
    by_cases c : i = 0
    · subst c; rfl
    · rw [if_neg (by simp; omega), if_neg (by omega)]⟩
  have e1 : sSet 2 (dsp mkF (acons (dsp mkC (acons (cI 0) anil)) anil)) [some (.ref 0), some (.int (n : Int)), none, none, none, none] (hp ns r) = .nx [some (.ref 0), some (.int (n : Int)), some (.lst (refs (r.length + 1) [[0]].length)), none, none, none] (hp ns (r ++ cells [[0]])) := set1 rfl
  have hw : wkR2 (cI 1) (var 1) [some (.ref 0), some (.int (n : Int)), some (.lst (refs (r.length + 1) [[0]].length)), none, none, none] (hp ns (r ++ cells [[0]])) = .ok ⟨rngI 1 1 (n - 1), []⟩ (hp ns (r ++ cells [[0]])) := by
    have e := w_rng2 (fa := cI 1) (fb := var 1) (en := [some (.ref 0), some (.int (n : Int)), some (.lst (refs (r.length + 1) [[0]].length)), none, none, none]) (h := hp ns (r ++ cells [[0]])) (i := 1) (j := (n : Int)) rfl rfl (by omega) (by omega)
    rw [show ((n : Int) - 1).toNat = n - 1 by omega] at e
    exact e
  obtain ⟨en', h', e3, ⟨ns', bs, x, y, z, gb, rfl, rfl⟩⟩ := forL_inv (g := gN 3) (b := bsb) (fun j en h' => ∃ ns' bs x y z, BlkAt (j + 1) bs ∧ en = [some (.ref 0), some (.int (n : Int)), some (.lst (refs (r.length + 1) bs.length)), x, y, z] ∧ h' = hp ns' (r ++ cells bs)) (rngI 1 1 (n - 1)) 0 [some (.ref 0), some (.int (n : Int)), some (.lst (refs (r.length + 1) [[0]].length)), none, none, none] (hp ns (r ++ cells [[0]])) ⟨ns, [[0]], none, none, none, g0, rfl, rfl⟩ (by
    rintro k hk en h' ⟨ns', bs, x, y, z, gb, rfl, rfl⟩
    rw [rng_len] at hk
    rw [rng_get, show (1 : Int) + (k : Int) * 1 = ((0 + k + 1 : Nat) : Int) by omega]
    obtain ⟨bs', y', z', g', e⟩ := sb_step ns' r n (k := 0 + k + 1) (by omega) gb y z
    exact ⟨_, rfl, _, _, .inl e, _, bs', _, y', z', g', rfl, rfl⟩)
  rw [rng_len, show 0 + (n - 1) + 1 = n by omega] at gb
  refine ⟨ns', bs, gb, ?_⟩
  have run : mx_law_some_blocks (startE 6 [.ref 0, .int (n : Int)]) (hp ns r) = .ret (.lst (refs (r.length + 1) bs.length)) (hp ns' (r ++ cells bs)) := by
    unfold mx_law_some_blocks
    show seq _ _ [some (.ref 0), some (.int (n : Int)), none, none, none, none] (hp ns r) = _
    refine (seq1 e1).trans ?_
    rw [a_seq, a_for, hw, bindS_ok]
    show (forL [] (gN 3) bsb (rngI 1 1 (n - 1)) [some (.ref 0), some (.int (n : Int)), some (.lst (refs (r.length + 1) [[0]].length)), none, none, none] (hp ns (r ++ cells [[0]]))).seq _ = _
    rw [e3, seq_nx]
    rfl
  have hl : (hp ns r).length = r.length + 1 := rfl
  have gg : gcOk (hp ns r) (hp ns' (r ++ cells bs)) := by
    have z := gcOk_set (k := 0) (c := .vals (ns'.map D.int)) (gcOk_app (gcOk_refl (hp ns r)) (cells bs)) (fun _ => by show belows _ _ = true; exact belows_map_int _ _)
    exact z
  have zf : frz 6 (hp ns' (r ++ cells bs)) (hp ns r).length [] (.lst (refs (r.length + 1) bs.length)) = some (blkD bs) := by
    have nb : ¬ below (hp ns r).length (.lst (refs (r.length + 1) bs.length)) = true := by
      rw [hl, below_lst]
      intro q
      have q := belows_iff.mp q (.ref (r.length + 1 + 0)) (List.mem_of_getElem? (refs_get (List.length_pos_iff.mpr gb.1)))
      rw [below_ref] at q
      have := of_decide_eq_true q
      omega
    unfold frz
    rw [if_neg nb, hl]
    show (mapO (frz 5 (hp ns' (r ++ cells bs)) (r.length + 1) []) ((List.range bs.length).map fun j => D.ref (r.length + 1 + 0 + j))).map D.lst = _
    rw [frz_refs (m := 0) bs 0 (fun j b hb => by
      have := cells_get (r := r) (ns := ns') hb
      exact cellL_eq this)]
    rfl
  have tk : (hp ns' (r ++ cells bs)).take (r.length + 1) = hp ns' r := by
    show Cell.vals (ns'.map D.int) :: (r ++ cells bs).take r.length = _
    rw [take_app]; rfl
  show fnm sel0 6 mx_law_some_blocks [.ref 0, .int (n : Int)] (hp ns r) = _
  unfold fnm
  rw [run]
  show gcR sel0 (hp ns r) (.ok _ (hp ns' (r ++ cells bs))) = _
  rw [gc_drop gg zf, hl, tk]
theorem BlkAt.blk {n : Nat} {bs : List (List Nat)} (h2 : n ≤ 6) (g : BlkAt n bs) : Blk n bs := ⟨by have := g.2.1; omega, fun b hb => ⟨(g.2.2.1 b hb).1, by have := (g.2.2.1 b hb).2.1; omega, (g.2.2.1 b hb).2.2.1, (g.2.2.1 b hb).2.2.2⟩⟩
theorem BlkAt.off {n : Nat} {bs : List (List Nat)} (g : BlkAt n bs) : fst (offAt bs) n = none := fst_none.mpr fun k hk => by
  unfold offAt
  rw [g.2.2.2 k, if_pos hk]
  rfl
end Sh
/-! Plain laws, part 19: rows that are right; refusals. -/
namespace Sh
open PySem Cb
open scoped Rat

theorem right_eq {n : Nat} (hn : n ≤ 9000) {q : Rat} (hq : Qz n q) (h : AH) : Fx_law_right [fr q] h = .ok (.bl true) h := by
  have c1 : tnot (tst (una (isi .tup) (var 0))) [some (fr q)] h = .ok false h := tnot_ok (b := true) (tst_ok rfl)
  have c2 : tcm dNe (dsp bLen (acons (var 0) anil)) (cI 2) [some (fr q)] h = .ok false h := tcm_ok (by
    rw [bin2 (d := .int 2) (e := .int 2) (h1 := h) (h2 := h) rfl rfl, o_nei]; rfl)
  have i0 : bin ixD (var 0) (cI 0) [some (fr q)] h = .ok (.int q.num) h := rfl
  have i1 : bin ixD (var 0) (cI 1) [some (fr q)] h = .ok (.int (q.den : Nat)) h := rfl
  have c3 : tnot (tst (cal [] 1 Fx_law_int (acons (bin ixD (var 0) (cI 0)) anil))) [some (fr q)] h = .ok false h := tnot_ok (b := true) (tst_ok (by rw [cal1 i0, lint_eq (tame_int _ _)]; rfl))
  have c4 : tnot (tst (cal [] 1 Fx_law_int (acons (bin ixD (var 0) (cI 1)) anil))) [some (fr q)] h = .ok false h := tnot_ok (b := true) (tst_ok (by rw [cal1 i1, lint_eq (tame_int _ _)]; rfl))
  have c5 : tcm dLt (bin ixD (var 0) (cI 1)) (cI 1) [some (fr q)] h = .ok false h := by
    have z := x_lt (f := bin ixD (var 0) (cI 1)) (g := cI 1) (en := [some (fr q)]) (h := h) (i := (q.den : Nat)) (j := 1) i1 rfl
    have := q.den_nz
    rw [decide_eq_false (by omega)] at z
    exact z
  have g : bin dEq (cal [] 2 Fx_law_gcd (acons (bin ixD (var 0) (cI 0)) (acons (bin ixD (var 0) (cI 1)) anil))) (cI 1) [some (fr q)] h = .ok (.bl true) h := by
    rw [bin2 (d := .int 1) (e := .int 1) (h1 := h) (h2 := h) (by
      rw [cal2 i0 i1, gcd_eq (by omega : n ≤ 100000) hq.1 hq.2]
      have : Nat.gcd q.num.natAbs (q.den : Int).natAbs = 1 := by rw [Int.natAbs_natCast]; exact q.reduced
      rw [this]; rfl) rfl, o_eqi]
    rfl
  refine f_ret (n := 1) (fb := mx_law_right) ?_ rfl
  unfold mx_law_right
  exact (seq1 (if0 ((tor_f c1).trans c2))).trans ((seq1 (if0 ((tor_f c3).trans ((tor_f c4).trans c5)))).trans (ret1 g))
theorem row_right_eq {n : Nat} (hn : n ≤ 9000) {qs : List Rat} (hz : ∀ q ∈ qs, Qz n q) (h : AH) : Fx_law_row_right [.tup (qs.map fr), .int (qs.length : Nat)] h = .ok (.bl true) h := by
  have c1 : tnot (tst (una (isi .tup) (var 0))) [some (.tup (qs.map fr)), some (.int (qs.length : Nat)), none] h = .ok false h := tnot_ok (b := true) (tst_ok rfl)
  have c2 : tcm dNe (dsp bLen (acons (var 0) anil)) (var 1) [some (.tup (qs.map fr)), some (.int (qs.length : Nat)), none] h = .ok false h := tcm_ok (by
    rw [bin2 (d := .int (qs.length : Nat)) (e := .int (qs.length : Nat)) (h1 := h) (h2 := h) (by rw [dsp1 (d := .tup (qs.map fr)) rfl, a_lenT, List.length_map]) rfl, o_nei, decide_eq_true rfl]; rfl)
  obtain ⟨en', h', e, rfl, z⟩ := forL_inv (g := gN 2) (b := sIf (tnot (tst (cal [] 1 Fx_law_right (acons (var 2) anil)))) (sRet (cB false)) skip) (fun k en h' => h' = h ∧ ∃ y, en = [some (.tup (qs.map fr)), some (.int (qs.length : Nat)), y]) (qs.map fr) 0 [some (.tup (qs.map fr)), some (.int (qs.length : Nat)), none] h ⟨rfl, _, rfl⟩ (by
    rintro k hk en h' ⟨rfl, y, rfl⟩
    obtain ⟨q, hq, e⟩ := List.mem_map.mp (List.getElem_mem hk)
    rw [← e]
    refine ⟨_, rfl, [some (.tup (qs.map fr)), some (.int (qs.length : Nat)), some (fr q)], h', .inl ?_, rfl, _, rfl⟩
    refine (if0 (tnot_ok (b := true) (tst_ok ?_))).trans rfl
    exact (cal1 (d := fr q) rfl).trans (right_eq hn (hz q hq) h'))
  have hw : wS (var 0) [some (.tup (qs.map fr)), some (.int (qs.length : Nat)), none] h' = .ok ⟨qs.map fr, []⟩ h' := w_tup rfl
  refine f_ret (n := 3) (fb := mx_law_row_right) ?_ rfl
  unfold mx_law_row_right
  show seq _ _ [some (.tup (qs.map fr)), some (.int (qs.length : Nat)), none] h' = _
  refine (seq1 (if0 ((tor_f c1).trans c2))).trans ?_
  rw [a_seq, a_for]
  show ((wS (var 0) [some (.tup (qs.map fr)), some (.int (qs.length : Nat)), none] h').bindS _ _).seq _ = _
  rw [hw, bindS_ok, e, seq_nx]
  rfl

/-! ### refused -/
noncomputable abbrev bref : En → AH → RS := sIf (tcm dEq (var 0) (cI 0)) (sExpr (cal [] 2 Fprize_of (acons (var 1) (acons (var 2) anil)))) (sIf (tcm dEq (var 0) (cI 1)) (sExpr (cal [] 1 Fby_number (acons (var 1) anil))) (sIf (tcm dEq (var 0) (cI 2)) (sExpr (calKK 4 3 1 (fun us ws => us ++ ws) Fprize_sum (acons (var 2) (acons (var 3) (acons (var 1) anil))) (acons (dsp mkT (acons (cI 1) (acons (cI 0) anil))) anil))) (sIf (tcm dEq (var 0) (cI 3)) (sExpr (cal [] 2 Frising_break (acons (var 1) (acons (var 2) anil)))) (sExpr (cal [] 3 Fcounts_break (acons (var 1) (acons (var 3) (acons (var 2) anil))))))))
theorem expr_exc {f : En → AH → Res D} {en : En} {h : AH} {c : Nat} {d : D} (e : f en h = .exc c d h) : sExpr f en h = .exc c d en h := by rw [a_expr, e, bindS_exc]
def tagOf : Nat → Str
  | 2 => "prize"
  | 0 => "number"
  | 1 => "fraction"
  | _ => "blocks"
theorem ref_end {w p s m d : D} {c : Nat} {h : AH} (hc : c = 2 ∨ c = 0 ∨ c = 1 ∨ c = 7) (e : bref [some w, some p, some s, some m, none, none, none, none] h = .exc c d [some w, some p, some s, some m, none, none, none, none] h) (bd : below h.length d = true) : Fx_law_refused_k81 [w, p, s, m] h = .ok (.tup [.str (tagOf c), d, .bl true]) h := by
  refine f_ret (n := 8) (fb := mx_law_refused_k81) ?_ (by rw [below_tup, belows_cons, belows_cons, belows_cons, bd]; rfl)
  unfold mx_law_refused_k81
  show seq _ _ [some w, some p, some s, some m, none, none, none, none] h = _
  rw [a_seq]
  have t : sTry [⟨2, 4, "prize", true⟩, ⟨0, 5, "number", true⟩, ⟨1, 6, "fraction", true⟩, ⟨7, 7, "blocks", true⟩] bref [some w, some p, some s, some m, none, none, none, none] h = .ret (.tup [.str (tagOf c), d, .bl true]) h := by
    unfold sTry
    rw [e]
    rcases hc with rfl | rfl | rfl | rfl <;> rfl
  show (sTry [⟨2, 4, "prize", true⟩, ⟨0, 5, "number", true⟩, ⟨1, 6, "fraction", true⟩, ⟨7, 7, "blocks", true⟩] bref [some w, some p, some s, some m, none, none, none, none] h).seq _ = _
  rw [t, seq_ret]
theorem ref_sel (w j : Int) (p s m : D) (h : AH) : tcm dEq (var 0) (cI j) [some (.int w), some p, some s, some m, none, none, none, none] h = .ok (decide (w = j)) h := x_eq rfl rfl
theorem ref0 {p s m d : D} {c : Nat} {h : AH} (hc : c = 2 ∨ c = 0 ∨ c = 1 ∨ c = 7) (e : Fprize_of [p, s] h = .exc c d h) (bd : below h.length d = true) : Fx_law_refused_k81 [.int 0, p, s, m] h = .ok (.tup [.str (tagOf c), d, .bl true]) h :=
  ref_end hc ((if1 (ref_sel 0 0 p s m h)).trans (expr_exc (by rw [cal2 (d := p) (e := s) rfl rfl, e]))) bd
theorem ref1 {p s m d : D} {c : Nat} {h : AH} (hc : c = 2 ∨ c = 0 ∨ c = 1 ∨ c = 7) (e : Fby_number [p] h = .exc c d h) (bd : below h.length d = true) : Fx_law_refused_k81 [.int 1, p, s, m] h = .ok (.tup [.str (tagOf c), d, .bl true]) h :=
  ref_end hc ((if0 (ref_sel 1 0 p s m h)).trans ((if1 (ref_sel 1 1 p s m h)).trans (expr_exc (by rw [cal1 (d := p) rfl, e])))) bd
theorem ref2 {p s m d : D} {c : Nat} {h : AH} (hc : c = 2 ∨ c = 0 ∨ c = 1 ∨ c = 7) (e : Fprize_sum [s, m, p, .tup [.int 1, .int 0]] h = .exc c d h) (bd : below h.length d = true) : Fx_law_refused_k81 [.int 2, p, s, m] h = .ok (.tup [.str (tagOf c), d, .bl true]) h :=
  ref_end hc ((if0 (ref_sel 2 0 p s m h)).trans ((if0 (ref_sel 2 1 p s m h)).trans ((if1 (ref_sel 2 2 p s m h)).trans (expr_exc e)))) bd
theorem ref3 {p s m d : D} {c : Nat} {h : AH} (hc : c = 2 ∨ c = 0 ∨ c = 1 ∨ c = 7) (e : Frising_break [p, s] h = .exc c d h) (bd : below h.length d = true) : Fx_law_refused_k81 [.int 3, p, s, m] h = .ok (.tup [.str (tagOf c), d, .bl true]) h :=
  ref_end hc ((if0 (ref_sel 3 0 p s m h)).trans ((if0 (ref_sel 3 1 p s m h)).trans ((if0 (ref_sel 3 2 p s m h)).trans ((if1 (ref_sel 3 3 p s m h)).trans (expr_exc (by rw [cal2 (d := p) (e := s) rfl rfl, e])))))) bd
theorem ref4 {p s m d : D} {c : Nat} {h : AH} (hc : c = 2 ∨ c = 0 ∨ c = 1 ∨ c = 7) (e : Fcounts_break [p, m, s] h = .exc c d h) (bd : below h.length d = true) : Fx_law_refused_k81 [.int 4, p, s, m] h = .ok (.tup [.str (tagOf c), d, .bl true]) h :=
  ref_end hc ((if0 (ref_sel 4 0 p s m h)).trans ((if0 (ref_sel 4 1 p s m h)).trans ((if0 (ref_sel 4 2 p s m h)).trans ((if0 (ref_sel 4 3 p s m h)).trans (expr_exc (by rw [cal3 (d := p) (e := m) (x := s) rfl rfl rfl, e])))))) bd
/-- word 0 or word 3 -/
theorem ref03 {w : Int} (hw : w = 0 ∨ w = 3) {p s m d : D} {c : Nat} {h : AH} (hc : c = 2 ∨ c = 0 ∨ c = 1 ∨ c = 7) (e : Fprize_of [p, s] h = .exc c d h) (bd : below h.length d = true) : Fx_law_refused_k81 [.int w, p, s, m] h = .ok (.tup [.str (tagOf c), d, .bl true]) h := by
  rcases hw with rfl | rfl
  · exact ref0 hc e bd
  · exact ref3 hc (rising_exc e bd) bd
theorem tri_i (x : Str) (hx : PyData.strOk x = true) (i : Int) (h : AH) : dNe (.tup [.str x, .int i, .bl true]) (.tup [.str x, .int i, .bl true]) h = .ok (.bl false) h := by
  have o : okd 20 (.tup [.str x, .int i, .bl true]) = true := by
    show (PyData.strOk x && true) = true
    rw [hx]; rfl
  unfold dNe
  rw [o]
  simp
theorem tri_s (x y : Str) (hx : PyData.strOk x = true) (hy : PyData.strOk y = true) (h : AH) : dNe (.tup [.str x, .str y, .bl true]) (.tup [.str x, .str y, .bl true]) h = .ok (.bl false) h := by
  have o : okd 20 (.tup [.str x, .str y, .bl true]) = true := by
    show (PyData.strOk x && (PyData.strOk y && true)) = true
    rw [hx, hy]; rfl
  unfold dNe
  rw [o]
  simp
theorem f_hpx {n : Nat} {fb : En → AH → RS} {ds : List D} {ns ns' : List Int} {r s : AH} {d : D} (e : fb (startE n ds) (hp ns r) = .ret d (hp ns' (r ++ s))) (b : below (r.length + 1) d = true) : fnm sel0 n fb ds (hp ns r) = .ok d (hp ns' r) := by
  have g : gcOk (hp ns r) (hp ns' (r ++ s)) := by
    have z := gcOk_set (k := 0) (c := .vals (ns'.map D.int)) (gcOk_app (gcOk_refl (hp ns r)) s) (fun _ => by show belows _ _ = true; exact belows_map_int _ _)
    exact z
  have tk : (hp ns' (r ++ s)).take (hp ns r).length = hp ns' r := by
    show Cell.vals (ns'.map D.int) :: (r ++ s).take r.length = _
    rw [take_app]; rfl
  unfold fnm
  rw [e]
  show gcR sel0 (hp ns r) (.ok d (hp ns' (r ++ s))) = _
  rw [gc_drop g (frz_below b), tk]
end Sh
/-! Plain laws, part 20: the doors of k81. -/
namespace Sh
open PySem Cb
open scoped Rat

theorem x_tabD {f g : En → AH → Res D} {en : En} {h h' : AH} {l : List D} {i : Int} (e1 : f en h = .ok (.lst l) h) (e2 : g en h = .ok (.int i) h') (i0 : 0 ≤ i) (i1 : i < l.length) : ∃ v, v ∈ l ∧ bin ixD f g en h = .ok v h' := by
  obtain ⟨k, rfl⟩ : ∃ k : Nat, i = (k : Int) := ⟨i.toNat, by omega⟩
  have hk : k < l.length := by omega
  refine ⟨l[k], List.getElem_mem hk, ?_⟩
  rw [bin2 e1 e2]
  exact ix_nat h' (l := l) rfl (List.getElem?_eq_getElem hk)
theorem slc_lst {f : En → AH → Res D} {fl fh : En → AH → Res (Option Int)} {en : En} {h : AH} {d : D} {l : List D} {lo hi : Option Int} (e : f en h = .ok d h) (el : fl en h = .ok lo h) (eh : fh en h = .ok hi h) (a : asL h d = some l) (hl : l.length ≤ 16777216) : slc mkF f fl fh en h = .ok (.lst (cutD l lo hi)) h := by
  unfold slc
  rw [e, bind_ok, el, bind_ok, eh, bind_ok]
  unfold slL
  rw [a]
  refine mkF_le ?_ h
  unfold cutD
  rw [List.length_take, List.length_drop]
  omega
theorem cut1_len (l : List D) : (cutD l (some 1) none).length = l.length - 1 := by
  unfold cutD HT.sIx
  simp only
  rw [List.length_take, List.length_drop]
  show min (l.length - min 1 l.length) (l.length - min 1 l.length) = _
  omega
theorem cut2_len (l : List D) (h : 2 ≤ l.length) : (cutD l none (some 2)).length = 2 := by
  unfold cutD HT.sIx
  simp only
  rw [List.length_take, List.length_drop]
  show min (min 2 l.length - 0) (l.length - 0) = _
  omega
def badL (qs : List Rat) (at_ : Nat) (v : D) : List D := (hands 0 qs).set at_ v
theorem bad_run {n m : Nat} (hm : m ≤ 4000) (h1 : 2 ≤ n) (h2 : n ≤ 6) {qs : List Rat} (hl : qs.length = 2 ^ n) (hz : ∀ q ∈ qs, Qz m q) {a : Nat} (ha : a < 2 ^ n) {v : D} (fv : frac v = none) (fi : fine (2 + m) v) {d : D} {h : AH} (hd : ∀ l, d ≠ .fix l) (e : asS h d = some (badL qs a v)) : Fprize_of [d, .int (n : Int)] h = .exc 2 (.int (a : Int)) h := by
  have lb : (badL qs a v).length = 2 ^ n := by unfold badL; rw [List.length_set, hands_len, hl]
  have tk : (qs.take a).length = a := by rw [List.length_take]; omega
  have z := prize_run (m := 2 + m) (by omega) h1 h2 (v := d) (l := badL qs a v) (qs := qs.take a) (h := h) e hd lb (by
    intro x hx
    rcases List.mem_or_eq_of_mem_set hx with hx | rfl
    · exact fine_hands 0 hz x hx
    · exact fi) (by
    intro k q hk
    rw [List.getElem?_take] at hk
    by_cases c : k < a
    · rw [if_pos c] at hk
      unfold badL
      rw [List.getElem?_set_ne (by omega)]
      exact hand_at k q hk
    · rw [if_neg c] at hk; cases hk) (by
    intro _
    rw [tk]
    unfold badL
    rw [List.getElem?_set_self (by rw [hands_len]; omega)]
    exact fv) (by rw [tk, lb]; omega)
  rw [z, tk, if_pos (by rw [lb]; exact ha)]
theorem bads {v : D} (h : v ∈ [D.tup [.int 1, .int 0], .bl true, .str "1", .tup [.int 1, .int 2, .int 3], .non]) (m : Nat) (hm : 1 ≤ m) : frac v = none ∧ fine m v ∧ ∀ k, below k v = true := by
  have o : Sz m 1 := (show Sz 1 1 by unfold Sz; decide).mono hm
  have o0 : Sz m 0 := (show Sz 1 0 by unfold Sz; decide).mono hm
  simp only [List.mem_cons, List.not_mem_nil, or_false] at h
  rcases h with rfl | rfl | rfl | rfl | rfl
  · exact ⟨rfl, ⟨o, o0⟩, fun _ => rfl⟩
  · exact ⟨rfl, trivial, fun _ => rfl⟩
  · exact ⟨rfl, trivial, fun _ => rfl⟩
  · refine ⟨rfl, ?_, fun _ => rfl⟩
    show ∀ d ∈ [D.int 1, .int 2, .int 3], ∀ h, tame h d
    intro d hd h
    simp only [List.mem_cons, List.not_mem_nil, or_false] at hd
    rcases hd with rfl | rfl | rfl <;> exact ⟨_, rfl⟩
  · exact ⟨rfl, trivial, fun _ => rfl⟩
theorem factor_bad (h : AH) : Ffraction_of [.tup [.int 1, .int 0], .str "factor"] h = .exc 1 (.str "factor") h := by
  rw [fraction_eq (n := 1) (by omega) (d := .tup [.int 1, .int 0]) ⟨by unfold Sz; decide, by unfold Sz; decide⟩]
  rfl
theorem five_bad (h : AH) : Fby_number [.lst [.int 0, .int 5, .non]] h = .exc 2 (.int 2) h := by
  have a := amounts_run (m := 1) (by omega) (v := .lst [.int 0, .int 5, .non]) (l := [.int 0, .int 5, .non]) (qs := [0, 5]) (h := h) rfl (by intro l c; cases c) (by decide) (by
    intro x hx
    simp only [List.mem_cons, List.not_mem_nil, or_false] at hx
    rcases hx with rfl | rfl | rfl <;> trivial) (by
    intro k q hk
    match k, hk with
    | 0, hk => have : q = 0 := by simpa using hk.symm
               subst this; rfl
    | 1, hk => have : q = 5 := by simpa using hk.symm
               subst this; rfl
    | k + 2, hk => simp at hk) (by intro _; rfl) (by decide)
  rw [if_pos (by decide)] at a
  exact by_exc a rfl
theorem blk0 {n : Nat} (h1 : 2 ≤ n) (h2 : n ≤ 6) (h : AH) : Fcheck_blocks [.lst [.lst [.int 0]], .int (n : Int)] h = .exc 7 (.int 1) h := by
  have z := check_run h1 h2 (bs := [[0]]) ⟨by decide, by
    intro b hb
    rw [List.mem_singleton.mp hb]
    exact ⟨by simp, by decide, by simp, fun i hi => by rw [List.mem_singleton.mp hi]; omega⟩⟩ h
  have f : fst (offAt [[0]]) n = some 1 := fst_hit (by omega) (by decide) (by decide)
  rw [f] at z
  exact z
theorem hand_cut {n : Nat} {l : List D} (h1 : 2 ≤ n) (hl : l.length = 2 ^ n) : (cutD l (some 1) none).length ≠ 2 ^ n := by
  rw [cut1_len, hl]
  have := Nat.two_pow_pos n
  omega
theorem pass {f g : En → AH → Res D} {en : En} {h h' : AH} {t : D} (e1 : f en h = .ok t h') (e2 : g en h' = .ok t h') (e3 : dNe t t h' = .ok (.bl false) h') : sIf (tcm dNe f g) (sRet (cB false)) skip en h = .nx en h' := (if0 (tcm_ok (by rw [bin2 e1 e2, e3]))).trans rfl
theorem doors_eq {n m : Nat} (hm : m ≤ 3000) (m1 : 1 ≤ m) (h1 : 2 ≤ n) (h2 : n ≤ 5) {qs : List Rat} (hl : qs.length = 2 ^ n) (hz : ∀ q ∈ qs, Qz m q) (ns : List Int) (r : AH) : ∃ ns', Fx_law_doors_k81 [.ref 0, .int (n : Int), .lst (hands 0 qs)] (hp ns r) = .ok (.bl true) (hp ns' r) := by
  have pw : 2 ^ n ≤ 2 ^ 5 := Nat.pow_le_pow_right (by omega) h2
  have pw2 : 2 ^ 2 ≤ 2 ^ n := Nat.pow_le_pow_right (by omega) h1
  have hlen : (hands 0 qs).length = 2 ^ n := by rw [hands_len, hl]
  obtain ⟨a, ea, ha⟩ := pk_nat (ns := ns) (m := 2 ^ n) (by omega)
  have s1 : sSet 3 (cal [] 2 Fx_law_pick (acons (var 0) (acons (dsp bLen (acons (var 2) anil)) anil))) [some (.ref 0), some (.int (n : Int)), some (.lst (hands 0 qs)), none, none, none] (hp ns r) = .nx [some (.ref 0), some (.int (n : Int)), some (.lst (hands 0 qs)), some (.int (a : Int)), none, none] (hp ns.dropLast r) := set1 (by
    rw [cal2 (d := .ref 0) (e := .int ((2 ^ n : Nat) : Int)) (h1 := hp ns r) (h2 := hp ns r) rfl (by rw [dsp1 (d := .lst (hands 0 qs)) rfl, a_lenL, hlen]), pick_eq _ _ (by omega), ea])
  generalize ns.dropLast = n1 at s1
  have s2 : sSet 4 (dsp (bLst mkC) (acons (var 2) anil)) [some (.ref 0), some (.int (n : Int)), some (.lst (hands 0 qs)), some (.int (a : Int)), none, none] (hp n1 r) = .nx [some (.ref 0), some (.int (n : Int)), some (.lst (hands 0 qs)), some (.int (a : Int)), some (.ref (r.length + 1)), none] (hp n1 (r ++ [.vals (hands 0 qs)])) := set1 (by
    rw [dsp1 (d := .lst (hands 0 qs)) rfl]
    exact mkC_le (by omega) _)
  obtain ⟨v, hv, e3⟩ := x_tabD (f := dsp mkF (acons (dsp mkT (acons (cI 1) (acons (cI 0) anil))) (acons (cB true) (acons (cS "1") (acons (dsp mkT (acons (cI 1) (acons (cI 2) (acons (cI 3) anil)))) (acons cN anil)))))) (g := cal [] 2 Fx_law_pick (acons (var 0) (acons (cI 5) anil))) (en := [some (.ref 0), some (.int (n : Int)), some (.lst (hands 0 qs)), some (.int (a : Int)), some (.ref (r.length + 1)), none]) (h := hp n1 (r ++ [.vals (hands 0 qs)])) (h' := hp n1.dropLast (r ++ [.vals (hands 0 qs)])) (l := [D.tup [.int 1, .int 0], .bl true, .str "1", .tup [.int 1, .int 2, .int 3], .non]) (i := pk n1 5) rfl (by rw [cal2 (d := .ref 0) (e := .int 5) rfl rfl, pick_eq _ _ (by omega)]) (pk_lo (by omega)) (pk_hi (by omega))
  obtain ⟨fv, fi, bv⟩ := bads hv (2 + m) (by omega)
  have gs : goSt [some (.ref 0), some (.int (n : Int)), some (.lst (hands 0 qs)), some (.int (a : Int)), some (.ref (r.length + 1)), none] (.ref (r.length + 1)) (.int (a : Int)) v (hp n1.dropLast (r ++ [.vals (hands 0 qs)])) = .nx [some (.ref 0), some (.int (n : Int)), some (.lst (hands 0 qs)), some (.int (a : Int)), some (.ref (r.length + 1)), none] (hp n1.dropLast (r ++ [.vals (badL qs a v)])) := goSt_end (h := hp n1.dropLast r) (l := hands 0 qs) (i := a) (d := v) (by omega)
  have s3 : sSto (var 4) (var 3) (bin ixD (dsp mkF (acons (dsp mkT (acons (cI 1) (acons (cI 0) anil))) (acons (cB true) (acons (cS "1") (acons (dsp mkT (acons (cI 1) (acons (cI 2) (acons (cI 3) anil)))) (acons cN anil)))))) (cal [] 2 Fx_law_pick (acons (var 0) (acons (cI 5) anil)))) [some (.ref 0), some (.int (n : Int)), some (.lst (hands 0 qs)), some (.int (a : Int)), some (.ref (r.length + 1)), none] (hp n1 (r ++ [.vals (hands 0 qs)])) = .nx [some (.ref 0), some (.int (n : Int)), some (.lst (hands 0 qs)), some (.int (a : Int)), some (.ref (r.length + 1)), none] (hp n1.dropLast (r ++ [.vals (badL qs a v)])) := by
    rw [a_sto, e3, bindS_ok, var_s, var_s, var_s, var_s, var_z, bindS_ok, var_s, var_s, var_s, var_z, bindS_ok]
    exact gs
  generalize n1.dropLast = n2 at s3
  obtain ⟨w, hw, e4⟩ := x_tab (f := dsp mkF (acons (cI 0) (acons (cI 3) anil))) (g := cal [] 2 Fx_law_pick (acons (var 0) (acons (cI 2) anil))) (en := [some (.ref 0), some (.int (n : Int)), some (.lst (hands 0 qs)), some (.int (a : Int)), some (.ref (r.length + 1)), none]) (h := hp n2 (r ++ [.vals (badL qs a v)])) (h' := hp n2.dropLast (r ++ [.vals (badL qs a v)])) (l := [0, 3]) (i := pk n2 2) rfl (by rw [cal2 (d := .ref 0) (e := .int 2) rfl rfl, pick_eq _ _ (by omega)]) (pk_lo (by omega)) (pk_hi (by omega))
  have hw2 : w = 0 ∨ w = 3 := by simpa using hw
  generalize n2.dropLast = n3 at e4
  have cb : ∀ k, cellL (hp k (r ++ [.vals (badL qs a v)])) (r.length + 1) = some (badL qs a v) := fun k => by
    show cellL (r ++ [.vals (badL qs a v)]) r.length = _
    exact cell_end _ _
  have nf : ∀ l, (D.ref (r.length + 1)) ≠ .fix l := by intro l c; cases c
  have br : ∀ k, Fprize_of [.ref (r.length + 1), .int (n : Int)] (hp k (r ++ [.vals (badL qs a v)])) = .exc 2 (.int (a : Int)) (hp k (r ++ [.vals (badL qs a v)])) := fun k => bad_run (by omega : m ≤ 4000) h1 (by omega) hl hz ha fv fi nf (cb k)
  have hh : ∀ k, Fprize_of [.lst (hands 0 qs), .int (n : Int)] (hp k (r ++ [.vals (badL qs a v)])) = .ok (.tup (qs.map fr)) (hp k (r ++ [.vals (badL qs a v)])) := fun k => prize_hand (by omega : m ≤ 4000) h1 (by omega) _ hl hz
  have blen : (badL qs a v).length = 2 ^ n := by unfold badL; rw [List.length_set, hlen]
  have okp : PyData.strOk "prize" = true := by decide +kernel
  have okn : PyData.strOk "number" = true := by decide +kernel
  have oks : PyData.strOk "size" = true := by decide +kernel
  have okf : PyData.strOk "fraction" = true := by decide +kernel
  have okc : PyData.strOk "factor" = true := by decide +kernel
  have okb : PyData.strOk "blocks" = true := by decide +kernel
  have p1 : ∀ k, sIf (tcm dNe (cal [] 4 Fx_law_refused_k81 (acons (var 5) (acons (var 4) (acons (var 1) (acons (var 2) anil))))) (dsp mkT (acons (cS "prize") (acons (var 3) (acons (cB true) anil))))) (sRet (cB false)) skip [some (.ref 0), some (.int (n : Int)), some (.lst (hands 0 qs)), some (.int (a : Int)), some (.ref (r.length + 1)), some (.int w)] (hp k (r ++ [.vals (badL qs a v)])) = .nx [some (.ref 0), some (.int (n : Int)), some (.lst (hands 0 qs)), some (.int (a : Int)), some (.ref (r.length + 1)), some (.int w)] (hp k (r ++ [.vals (badL qs a v)])) := fun k =>
    pass (t := .tup [.str "prize", .int (a : Int), .bl true]) (by rw [cal4 (d := .int w) (e := .ref (r.length + 1)) (x := .int (n : Int)) (y := .lst (hands 0 qs)) rfl rfl rfl rfl, ref03 hw2 (.inl rfl) (br k) rfl]; rfl) rfl (tri_i _ okp _ _)
  obtain ⟨sz, hsz, e5⟩ := x_tabD (f := dsp mkF (acons (cI 1) (acons (cI 7) (acons (cB true) (acons cN anil))))) (g := cal [] 2 Fx_law_pick (acons (var 0) (acons (cI 4) anil))) (en := [some (.ref 0), some (.int (n : Int)), some (.lst (hands 0 qs)), some (.int (a : Int)), some (.ref (r.length + 1)), some (.int w)]) (h := hp n3 (r ++ [.vals (badL qs a v)])) (h' := hp n3.dropLast (r ++ [.vals (badL qs a v)])) (l := [.int 1, .int 7, .bl true, .non]) (i := pk n3 4) rfl (by rw [cal2 (d := .ref 0) (e := .int 4) rfl rfl, pick_eq _ _ (by omega)]) (pk_lo (by omega)) (pk_hi (by omega))
  have hsz2 : sz = .int 1 ∨ sz = .int 7 ∨ sz = .bl true ∨ sz = .non := by simpa using hsz
  have p2 : sIf (tcm dNe (cal [] 4 Fx_law_refused_k81 (acons (var 5) (acons (var 4) (acons (bin ixD (dsp mkF (acons (cI 1) (acons (cI 7) (acons (cB true) (acons cN anil))))) (cal [] 2 Fx_law_pick (acons (var 0) (acons (cI 4) anil)))) (acons (var 2) anil))))) (dsp mkT (acons (cS "number") (acons (cS "size") (acons (cB true) anil))))) (sRet (cB false)) skip [some (.ref 0), some (.int (n : Int)), some (.lst (hands 0 qs)), some (.int (a : Int)), some (.ref (r.length + 1)), some (.int w)] (hp n3 (r ++ [.vals (badL qs a v)])) = .nx [some (.ref 0), some (.int (n : Int)), some (.lst (hands 0 qs)), some (.int (a : Int)), some (.ref (r.length + 1)), some (.int w)] (hp n3.dropLast (r ++ [.vals (badL qs a v)])) :=
    pass (t := .tup [.str "number", .str "size", .bl true]) (by rw [cal4 (d := .int w) (e := .ref (r.length + 1)) (x := sz) (y := .lst (hands 0 qs)) rfl rfl e5 rfl, ref03 hw2 (.inr (.inl rfl)) (prize_size_bad hsz2 _) rfl]; rfl) rfl (tri_s _ _ okn oks _)
  generalize n3.dropLast = n4 at p2
  have c1 : slc mkF (var 4) (oS (cI 1)) oN [some (.ref 0), some (.int (n : Int)), some (.lst (hands 0 qs)), some (.int (a : Int)), some (.ref (r.length + 1)), some (.int w)] (hp n4 (r ++ [.vals (badL qs a v)])) = .ok (.lst (cutD (badL qs a v) (some 1) none)) (hp n4 (r ++ [.vals (badL qs a v)])) := slc_lst (d := .ref (r.length + 1)) rfl rfl rfl (cb n4) (by omega)
  have p3 : sIf (tcm dNe (cal [] 4 Fx_law_refused_k81 (acons (var 5) (acons (slc mkF (var 4) (oS (cI 1)) oN) (acons (var 1) (acons (var 2) anil))))) (dsp mkT (acons (cS "prize") (acons (una dNeg (cI 1)) (acons (cB true) anil))))) (sRet (cB false)) skip [some (.ref 0), some (.int (n : Int)), some (.lst (hands 0 qs)), some (.int (a : Int)), some (.ref (r.length + 1)), some (.int w)] (hp n4 (r ++ [.vals (badL qs a v)])) = .nx [some (.ref 0), some (.int (n : Int)), some (.lst (hands 0 qs)), some (.int (a : Int)), some (.ref (r.length + 1)), some (.int w)] (hp n4 (r ++ [.vals (badL qs a v)])) :=
    pass (t := .tup [.str "prize", .int (-1), .bl true]) (by rw [cal4 (d := .int w) (e := .lst (cutD (badL qs a v) (some 1) none)) (x := .int (n : Int)) (y := .lst (hands 0 qs)) rfl c1 rfl rfl, ref03 hw2 (.inl rfl) (prize_len_bad h1 (by omega) (l := cutD (badL qs a v) (some 1) none) rfl (by intro l c; cases c) (hand_cut h1 blen)) rfl]; rfl) rfl (tri_i _ okp _ _)
  have c2 : slc mkF (var 2) oN (oS (cI 2)) [some (.ref 0), some (.int (n : Int)), some (.lst (hands 0 qs)), some (.int (a : Int)), some (.ref (r.length + 1)), some (.int w)] (hp n4 (r ++ [.vals (badL qs a v)])) = .ok (.lst (cutD (hands 0 qs) none (some 2))) (hp n4 (r ++ [.vals (badL qs a v)])) := slc_lst (d := .lst (hands 0 qs)) rfl rfl rfl rfl (by omega)
  have p4 : sIf (tcm dNe (cal [] 4 Fx_law_refused_k81 (acons (cI 1) (acons (slc mkF (var 2) oN (oS (cI 2))) (acons (var 1) (acons (var 2) anil))))) (dsp mkT (acons (cS "prize") (acons (una dNeg (cI 1)) (acons (cB true) anil))))) (sRet (cB false)) skip [some (.ref 0), some (.int (n : Int)), some (.lst (hands 0 qs)), some (.int (a : Int)), some (.ref (r.length + 1)), some (.int w)] (hp n4 (r ++ [.vals (badL qs a v)])) = .nx [some (.ref 0), some (.int (n : Int)), some (.lst (hands 0 qs)), some (.int (a : Int)), some (.ref (r.length + 1)), some (.int w)] (hp n4 (r ++ [.vals (badL qs a v)])) :=
    pass (t := .tup [.str "prize", .int (-1), .bl true]) (by rw [cal4 (d := .int 1) (e := .lst (cutD (hands 0 qs) none (some 2))) (x := .int (n : Int)) (y := .lst (hands 0 qs)) rfl c2 rfl rfl, ref1 (.inl rfl) (by_exc (amounts_len_bad (l := cutD (hands 0 qs) none (some 2)) rfl (by intro l c; cases c) (by rw [cut2_len _ (by omega)]; omega)) rfl) rfl]; rfl) rfl (tri_i _ okp _ _)
  have p5 : sIf (tcm dNe (cal [] 4 Fx_law_refused_k81 (acons (cI 1) (acons (dsp mkF (acons (cI 0) (acons (cI 5) (acons cN anil)))) (acons (var 1) (acons (var 2) anil))))) (dsp mkT (acons (cS "prize") (acons (cI 2) (acons (cB true) anil))))) (sRet (cB false)) skip [some (.ref 0), some (.int (n : Int)), some (.lst (hands 0 qs)), some (.int (a : Int)), some (.ref (r.length + 1)), some (.int w)] (hp n4 (r ++ [.vals (badL qs a v)])) = .nx [some (.ref 0), some (.int (n : Int)), some (.lst (hands 0 qs)), some (.int (a : Int)), some (.ref (r.length + 1)), some (.int w)] (hp n4 (r ++ [.vals (badL qs a v)])) :=
    pass (t := .tup [.str "prize", .int 2, .bl true]) (by rw [cal4 (d := .int 1) (e := .lst [.int 0, .int 5, .non]) (x := .int (n : Int)) (y := .lst (hands 0 qs)) rfl rfl rfl rfl, ref1 (.inl rfl) (five_bad _) rfl]; rfl) rfl (tri_i _ okp _ _)
  have c3 : slc mkF (var 2) (oS (cI 1)) oN [some (.ref 0), some (.int (n : Int)), some (.lst (hands 0 qs)), some (.int (a : Int)), some (.ref (r.length + 1)), some (.int w)] (hp n4 (r ++ [.vals (badL qs a v)])) = .ok (.lst (cutD (hands 0 qs) (some 1) none)) (hp n4 (r ++ [.vals (badL qs a v)])) := slc_lst (d := .lst (hands 0 qs)) rfl rfl rfl rfl (by omega)
  have p6 : sIf (tcm dNe (cal [] 4 Fx_law_refused_k81 (acons (cI 2) (acons (var 4) (acons (var 1) (acons (slc mkF (var 2) (oS (cI 1)) oN) anil))))) (dsp mkT (acons (cS "prize") (acons (una dNeg (cI 1)) (acons (cB true) anil))))) (sRet (cB false)) skip [some (.ref 0), some (.int (n : Int)), some (.lst (hands 0 qs)), some (.int (a : Int)), some (.ref (r.length + 1)), some (.int w)] (hp n4 (r ++ [.vals (badL qs a v)])) = .nx [some (.ref 0), some (.int (n : Int)), some (.lst (hands 0 qs)), some (.int (a : Int)), some (.ref (r.length + 1)), some (.int w)] (hp n4 (r ++ [.vals (badL qs a v)])) :=
    pass (t := .tup [.str "prize", .int (-1), .bl true]) (by rw [cal4 (d := .int 2) (e := .ref (r.length + 1)) (x := .int (n : Int)) (y := .lst (cutD (hands 0 qs) (some 1) none)) rfl rfl rfl c3, ref2 (.inl rfl) (sum_exc1 (prize_len_bad h1 (by omega) (l := cutD (hands 0 qs) (some 1) none) rfl (by intro l c; cases c) (hand_cut h1 hlen)) rfl) rfl]; rfl) rfl (tri_i _ okp _ _)
  have p7 : sIf (tcm dNe (cal [] 4 Fx_law_refused_k81 (acons (cI 2) (acons (var 2) (acons (var 1) (acons (var 2) anil))))) (dsp mkT (acons (cS "fraction") (acons (cS "factor") (acons (cB true) anil))))) (sRet (cB false)) skip [some (.ref 0), some (.int (n : Int)), some (.lst (hands 0 qs)), some (.int (a : Int)), some (.ref (r.length + 1)), some (.int w)] (hp n4 (r ++ [.vals (badL qs a v)])) = .nx [some (.ref 0), some (.int (n : Int)), some (.lst (hands 0 qs)), some (.int (a : Int)), some (.ref (r.length + 1)), some (.int w)] (hp n4 (r ++ [.vals (badL qs a v)])) :=
    pass (t := .tup [.str "fraction", .str "factor", .bl true]) (by rw [cal4 (d := .int 2) (e := .lst (hands 0 qs)) (x := .int (n : Int)) (y := .lst (hands 0 qs)) rfl rfl rfl rfl, ref2 (.inr (.inr (.inl rfl))) (sum_exc3 (hh n4) (hh n4) (factor_bad _) rfl) rfl]; rfl) rfl (tri_s _ _ okf okc _)
  have p8 : sIf (tcm dNe (cal [] 4 Fx_law_refused_k81 (acons (cI 4) (acons (var 4) (acons (var 1) (acons (dsp mkF (acons (dsp mkF (acons (cI 0) anil)) anil)) anil))))) (dsp mkT (acons (cS "prize") (acons (var 3) (acons (cB true) anil))))) (sRet (cB false)) skip [some (.ref 0), some (.int (n : Int)), some (.lst (hands 0 qs)), some (.int (a : Int)), some (.ref (r.length + 1)), some (.int w)] (hp n4 (r ++ [.vals (badL qs a v)])) = .nx [some (.ref 0), some (.int (n : Int)), some (.lst (hands 0 qs)), some (.int (a : Int)), some (.ref (r.length + 1)), some (.int w)] (hp n4 (r ++ [.vals (badL qs a v)])) :=
    pass (t := .tup [.str "prize", .int (a : Int), .bl true]) (by rw [cal4 (d := .int 4) (e := .ref (r.length + 1)) (x := .int (n : Int)) (y := .lst [.lst [.int 0]]) rfl rfl rfl rfl, ref4 (.inl rfl) (cbreak_exc1 (br n4) rfl) rfl]; rfl) rfl (tri_i _ okp _ _)
  have okT : okd 20 (.tup [.str "blocks", .int 1, .bl true]) = true := by
    show (PyData.strOk "blocks" && true) = true
    rw [okb]; rfl
  have eT : dEq (.tup [.str "blocks", .int 1, .bl true]) (.tup [.str "blocks", .int 1, .bl true]) (hp n4 (r ++ [.vals (badL qs a v)])) = .ok (.bl true) (hp n4 (r ++ [.vals (badL qs a v)])) := by
    unfold dEq
    rw [okT]
    simp
  have p9 : sRet (bin dEq (cal [] 4 Fx_law_refused_k81 (acons (cI 4) (acons (var 2) (acons (var 1) (acons (dsp mkF (acons (dsp mkF (acons (cI 0) anil)) anil)) anil))))) (dsp mkT (acons (cS "blocks") (acons (cI 1) (acons (cB true) anil))))) [some (.ref 0), some (.int (n : Int)), some (.lst (hands 0 qs)), some (.int (a : Int)), some (.ref (r.length + 1)), some (.int w)] (hp n4 (r ++ [.vals (badL qs a v)])) = .ret (.bl true) (hp n4 (r ++ [.vals (badL qs a v)])) := ret1 (by
    rw [bin2 (d := .tup [.str "blocks", .int 1, .bl true]) (e := .tup [.str "blocks", .int 1, .bl true]) (h1 := hp n4 (r ++ [.vals (badL qs a v)])) (h2 := hp n4 (r ++ [.vals (badL qs a v)])) (by rw [cal4 (d := .int 4) (e := .lst (hands 0 qs)) (x := .int (n : Int)) (y := .lst [.lst [.int 0]]) rfl rfl rfl rfl, ref4 (.inr (.inr (.inr rfl))) (cbreak_exc2 (hh n4) (blk0 h1 (by omega) _) rfl) rfl]; rfl) rfl, eT])
  refine ⟨n4, f_hpx (n := 6) (fb := mx_law_doors_k81) (s := [.vals (badL qs a v)]) ?_ rfl⟩
  unfold mx_law_doors_k81
  exact (seq1 s1).trans ((seq1 s2).trans ((seq1 s3).trans ((seq1 (set1 e4)).trans ((seq1 (p1 n3)).trans ((seq1 p2).trans ((seq1 p3).trans ((seq1 p4).trans ((seq1 p5).trans ((seq1 p6).trans ((seq1 p7).trans ((seq1 p8).trans p9)))))))))))
end Sh
/-! Plain laws, part 21: what k81's body needs. -/
namespace Sh
open PySem Cb
open scoped Rat

/-- plain and not deep -/
def Nice (d : D) : Prop := okd 20 d = true ∧ pln d = true
theorem ne_self {d : D} (n : Nice d) (h : AH) : dNe d d h = .ok (.bl false) h := by
  have e : deqv d d = true := (deqv_pln d d n.2 n.2).mpr rfl
  unfold dNe
  rw [n.1, e]
  rfl
theorem plns_of : ∀ {l : List D}, (∀ d ∈ l, pln d = true) → plns l = true
  | [], _ => rfl
  | d :: l, h => by
    show (pln d && plns l) = true
    rw [h d (by simp), plns_of (fun e he => h e (by simp [he]))]
    rfl
theorem okd_all {k : Nat} {l : List D} (h : ∀ d ∈ l, okd k d = true) : l.all (okd k) = true := List.all_eq_true.mpr h
theorem nice_frs (qs : List Rat) : Nice (.tup (qs.map fr)) := ⟨okd_all (k := 19) fun d hd => by
  obtain ⟨q, _, rfl⟩ := List.mem_map.mp hd
  rfl, plns_of fun d hd => by
  obtain ⟨q, _, rfl⟩ := List.mem_map.mp hd
  rfl⟩
theorem nice_handD (i : Nat) (q : Rat) : okd 19 (handD i q) = true ∧ pln (handD i q) = true := by unfold handD; split <;> exact ⟨rfl, rfl⟩
theorem mem_hands : ∀ (i : Nat) (l : List Rat) (d : D), d ∈ hands i l → ∃ j q, d = handD j q
  | _, [], _, h => nomatch h
  | i, q :: l, d, h => by
    rcases List.mem_cons.mp (show d ∈ handD i q :: hands (i + 1) l from h) with rfl | h
    · exact ⟨_, _, rfl⟩
    · exact mem_hands (i + 1) l d h
theorem nice_hands (qs : List Rat) : Nice (.lst (hands 0 qs)) := ⟨okd_all (k := 19) fun d hd => by
  obtain ⟨j, q, rfl⟩ := mem_hands _ _ _ hd
  exact (nice_handD j q).1, plns_of fun d hd => by
  obtain ⟨j, q, rfl⟩ := mem_hands _ _ _ hd
  exact (nice_handD j q).2⟩
theorem nice_lotT (f n k : Nat) : okd (f + 2) (lotT n k) = true ∧ pln (lotT n k) = true := ⟨okd_all (k := f + 1) fun d hd => by
  obtain ⟨i, _, rfl⟩ := List.mem_map.mp hd
  rfl, plns_of fun d hd => by
  obtain ⟨i, _, rfl⟩ := List.mem_map.mp hd
  rfl⟩
theorem nice_fall (n : Nat) (qs : List Rat) : Nice (fallD n qs) := by
  unfold fallD
  split
  · split
    · rename_i k _ _ i _
      refine ⟨?_, ?_⟩
      · show (okd 19 (lotT n k) && (okd 19 (.int (i : Int)) && true)) = true
        rw [(nice_lotT 17 n k).1]; rfl
      · show (pln (lotT n k) && (pln (.int (i : Int)) && true)) = true
        rw [(nice_lotT 17 n k).2]; rfl
    · exact ⟨rfl, rfl⟩
  · exact ⟨rfl, rfl⟩
theorem nice_un (n : Nat) (qs : List Rat) (bs : List (List Nat)) : Nice (unD n qs bs) := by
  unfold unD
  split
  · rename_i k _
    refine ⟨?_, ?_⟩
    · show (okd 19 (lotT n (fa bs k)) && (okd 19 (lotT n k) && true)) = true
      rw [(nice_lotT 17 n k).1, (nice_lotT 17 n (fa bs k)).1]; rfl
    · show (pln (lotT n (fa bs k)) && (pln (lotT n k) && true)) = true
      rw [(nice_lotT 17 n k).2, (nice_lotT 17 n (fa bs k)).2]; rfl
  · exact ⟨rfl, rfl⟩
theorem nice_fr (q : Rat) : Nice (fr q) := ⟨rfl, rfl⟩
/-! the amounts -/
def amts (n : Nat) (qs : List Rat) : List Rat := qs.getD 1 0 :: (qs.drop 1).take n
theorem amts_len {n : Nat} (h1 : 2 ≤ n) (h2 : n ≤ 5) {qs : List Rat} (hl : qs.length = 2 ^ n) : (amts n qs).length = n + 1 := by
  have : n + 1 ≤ 2 ^ n := by
    obtain rfl | rfl | rfl | rfl : n = 2 ∨ n = 3 ∨ n = 4 ∨ n = 5 := by omega
    all_goals decide
  show ((qs.drop 1).take n).length + 1 = _
  rw [List.length_take, List.length_drop]
  omega
theorem amts_mem {n m : Nat} {qs : List Rat} (h1 : 1 < qs.length) (hz : ∀ q ∈ qs, Qz m q) : ∀ q ∈ amts n qs, Qz m q := by
  intro q hq
  rcases List.mem_cons.mp hq with rfl | hq
  · exact hz _ (getD_mem h1)
  · exact hz _ (List.mem_of_mem_drop (List.mem_of_mem_take hq))
theorem cut_amts {n : Nat} (h1 : 2 ≤ n) (h2 : n ≤ 5) {qs : List Rat} (hl : qs.length = 2 ^ n) : cutD (qs.map fr) (some 1) (some ((n : Int) + 1)) = ((qs.drop 1).take n).map fr := by
  have : n + 1 ≤ 2 ^ n := by
    obtain rfl | rfl | rfl | rfl : n = 2 ∨ n = 3 ∨ n = 4 ∨ n = 5 := by omega
    all_goals decide
  have e1 : HT.sIx (qs.map fr).length 0 (some 1) = 1 := by
    show (if (1 : Int) < 0 then ((1 : Int) + ((qs.map fr).length : Nat)).toNat else min (1 : Int).toNat (qs.map fr).length) = 1
    rw [if_neg (by omega), List.length_map]
    show min 1 _ = 1
    omega
  have e2 : HT.sIx (qs.map fr).length (qs.map fr).length (some ((n : Int) + 1)) = n + 1 := by
    show (if ((n : Int) + 1) < 0 then (((n : Int) + 1) + ((qs.map fr).length : Nat)).toNat else min ((n : Int) + 1).toNat (qs.map fr).length) = n + 1
    rw [if_neg (by omega), List.length_map]
    omega
  unfold cutD
  rw [e1, e2, List.map_take, List.map_drop]
  rfl
/-! the prize's cell -/
theorem cell_tail (p : List Int) (r : AH) (j : Nat) : cellL (hp p r) (j + 1) = cellL r j := rfl
theorem cell_app' {r : AH} {j : Nat} {l : List D} (s : AH) (e : cellL r j = some l) : cellL (r ++ s) j = some l := asS_app (d := .ref j) s e
theorem half_fr : D.tup [.int (-1), .int 2] = fr ((-1 : Int) /. 2) := by
  have e : ((-1 : Int) /. 2).num = -1 ∧ ((-1 : Int) /. 2).den = 2 := by
    constructor
    · rw [Rat.num_divInt]; rfl
    · rw [Rat.den_divInt]; rfl
  unfold fr
  rw [e.1, e.2]
  rfl
theorem half_z : Qz 10 ((-1 : Int) /. 2) := Qz.div (by unfold Sz; decide) (by unfold Sz; decide) (by omega)
theorem alike_row {n m : Nat} (hn : n ≤ 6) {bs : List (List Nat)} (fw : Few n bs) {qs : List Rat} (hl : qs.length = 2 ^ n) (hz : ∀ q ∈ qs, Qz m q) {en : En} {h : AH} {d : D} (v2 : var 2 (wipeE en [12]) h = .ok (.int (n : Int)) h) (e3 : ∀ x, var 3 ((wipeE en [12]).set 12 x) h = .ok d h) (e2 : ∀ x, var 2 ((wipeE en [12]).set 12 x) h = .ok (.int (n : Int)) h) (e5 : ∀ x, var 5 ((wipeE en [12]).set 12 x) h = .ok (blkD bs) h) (e12 : ∀ x, var 12 ((wipeE en [12]).set 12 (some x)) h = .ok x h) (e4 : var 4 en h = .ok (.lst (lots n)) h) (a : asS h d = some (qs.map fr)) :
    ∃ qs' : List Rat, qs'.length = 2 ^ n ∧ (∀ q ∈ qs', Qz m q) ∧ lcC [12] (wkR1 (dsp bLen (acons (var 4) anil))) (gN 12) tyes (bin ixD (var 3) (cal [] 3 Fx_law_first_alike (acons (var 2) (acons (var 5) (acons (var 12) anil))))) en h = .ok (.ref h.length) (h ++ [.vals (qs'.map fr)]) := by
  have pw : 2 ^ n ≤ 2 ^ 6 := Nat.pow_le_pow_right (by omega) hn
  have c := lcC_all (vs := [12]) (fi := wkR1 (dsp bLen (acons (var 4) anil))) (g := gN 12) (fe := bin ixD (var 3) (cal [] 3 Fx_law_first_alike (acons (var 2) (acons (var 5) (acons (var 12) anil))))) (en := en) (h := h) (l := natsD (List.range (2 ^ n))) (src := []) (fun d => match d with
    | .int i => fr (qs.getD (fa bs i.toNat) 0)
    | d => d) (by
      rw [← rng_natsD]
      exact w_rng1 (by rw [dsp1 e4, a_lenL, lots_len]) (by omega)) rfl (by rw [natsD_len, List.length_range]; omega) (by
      intro x hx
      obtain ⟨i, hi, rfl⟩ := List.mem_map.mp hx
      have hi := List.mem_range.mp hi
      refine ⟨_, rfl, ?_⟩
      have hf := fa_le bs i
      rw [bin2 (d := d) (e := .int (fa bs i : Nat)) (h1 := h) (h2 := h) (e3 _) (by rw [cal3 (e2 _) (e5 _) (e12 _), alike_eq (by omega) fw hi]), ix_asS a (by omega)]
      show _ = Res.ok (fr (qs.getD (fa bs (i : Int).toNat) 0)) h
      rw [Int.toNat_natCast])
  refine ⟨(List.range (2 ^ n)).map fun i => qs.getD (fa bs i) 0, by simp, ?_, ?_⟩
  · intro q hq
    obtain ⟨i, hi, rfl⟩ := List.mem_map.mp hq
    have hi := List.mem_range.mp hi
    have hf := fa_le bs i
    exact hz _ (getD_mem (by omega))
  · rw [c]
    unfold natsD
    rw [List.map_map, List.map_map]
    rfl
theorem number_row {n m : Nat} (hn : n ≤ 6) (hm : m ≤ 3000) (m1 : 10 ≤ m) {qs : List Rat} (hl : qs.length = 2 ^ n) (hz : ∀ q ∈ qs, Qz m q) {en : En} {h : AH} {d : D} (e3 : ∀ x, var 3 ((wipeE en [16]).set 16 x) h = .ok d h) (e16 : ∀ x, var 16 ((wipeE en [16]).set 16 (some x)) h = .ok x h) (e4 : var 4 en h = .ok (.lst (lots n)) h) (a : asS h d = some (qs.map fr)) :
    ∃ qs' : List Rat, qs'.length = 2 ^ n ∧ (∀ q ∈ qs', Qz (m + m + 1) q) ∧ lcC [16] (wS (var 4)) (gN 16) tyes (cal [] 2 Fx_law_sum (acons (bin ixD (var 3) (cI 0)) (acons (dsp mkT (acons (bin dMul (cI 5) (dsp bLen (acons (var 16) anil))) (acons (cI 1) anil))) anil))) en h = .ok (.ref h.length) (h ++ [.vals (qs'.map fr)]) := by
  have pw : 2 ^ n ≤ 2 ^ 6 := Nat.pow_le_pow_right (by omega) hn
  have p0 := Nat.two_pow_pos n
  have z0 : Qz m (qs.getD 0 0) := hz _ (getD_mem (by omega))
  have zk : ∀ k, Qz m (((5 * ((pl n k).length : Int) : Int)) : Rat) := fun k => by
    have := pl_len n k
    refine ⟨?_, ?_⟩
    · exact (sz_lt (n := 10) (by show 0 ≤ 5 * ((pl n k).length : Int); omega) (by show 5 * ((pl n k).length : Int) < _; omega)).mono m1
    · exact (show Sz 1 ((1 : Nat) : Int) by unfold Sz; decide).mono (by omega)
  have c := lcC_all (vs := [16]) (fi := wS (var 4)) (g := gN 16) (fe := cal [] 2 Fx_law_sum (acons (bin ixD (var 3) (cI 0)) (acons (dsp mkT (acons (bin dMul (cI 5) (dsp bLen (acons (var 16) anil))) (acons (cI 1) anil))) anil))) (en := en) (h := h) (l := lots n) (src := []) (fun d => fr (qs.getD 0 0 + (((5 * ((natsOf d).length : Int) : Int)) : Rat))) (w_lst e4) rfl (by rw [lots_len]; omega) (by
      intro x hx
      obtain ⟨k, hk, rfl⟩ := List.mem_map.mp hx
      refine ⟨_, rfl, ?_⟩
      have i0 : bin ixD (var 3) (cI 0) ((wipeE en [16]).set 16 (some (lotL n k))) h = .ok (fr (qs.getD 0 0)) h := by
        rw [bin2 (e3 _) (e := .int ((0 : Nat) : Int)) rfl, ix_asS a (by omega)]
      have i1 : dsp mkT (acons (bin dMul (cI 5) (dsp bLen (acons (var 16) anil))) (acons (cI 1) anil)) ((wipeE en [16]).set 16 (some (lotL n k))) h = .ok (fr (((5 * ((pl n k).length : Int) : Int)) : Rat)) h := by
        have := pl_len n k
        rw [dsp2 (d := .int (5 * ((pl n k).length : Int))) (e := .int 1) (h1 := h) (h2 := h) (x_mul (m := 3) (n := 10) rfl (by rw [dsp1 (e16 _)]; unfold lotL; rw [a_lenL, natsD_len]) (by unfold Sz; decide) (sz_lt (by omega) (by omega))) rfl, mkT_2, fr_int]
      show cal [] 2 Fx_law_sum _ ((wipeE en [16]).set 16 (some (lotL n k))) h = _
      rw [cal2 i0 i1, sum_eq (by omega : m ≤ 4000) z0 (zk k)]
      unfold lotL
      rw [natsOf_lst])
  refine ⟨(List.range (2 ^ n)).map fun k => qs.getD 0 0 + (((5 * ((pl n k).length : Int) : Int)) : Rat), by simp, ?_, ?_⟩
  · intro q hq
    obtain ⟨k, hk, rfl⟩ := List.mem_map.mp hq
    exact z0.add (zk k)
  · rw [c]
    unfold lots
    rw [List.map_map, List.map_map]
    refine congrArg (fun l => Res.ok (D.ref h.length) (h ++ [Cell.vals l])) (List.map_congr_left fun k _ => ?_)
    show fr (qs.getD 0 0 + (((5 * ((natsOf (lotL n k)).length : Int) : Int)) : Rat)) = _
    unfold lotL
    rw [natsOf_lst]
    rfl
end Sh
/-! Plain laws, part 22: k81's body. -/
namespace Sh
open PySem Cb
open scoped Rat

noncomputable abbrev q81_1 : En → AH → RS := sSet 1 (cal [] 1 Fx_law_pool (acons (var 0) anil))
noncomputable abbrev q81_2 : En → AH → RS := sSet 2 (cal [] 2 Fx_law_size (acons (var 1) (acons (cI 5) anil)))
noncomputable abbrev q81_3 : En → AH → RS := sSet 3 (cal [] 2 Fx_law_prize (acons (var 1) (acons (var 2) anil)))
noncomputable abbrev q81_4 : En → AH → RS := sSet 4 (cal [] 1 Fx_law_lots (acons (var 2) anil))
noncomputable abbrev q81_5 : En → AH → RS := sSet 5 (cal [] 2 Fx_law_some_blocks (acons (var 1) (acons (var 2) anil)))
noncomputable abbrev q81_6 : En → AH → RS := sSet 6 (cal [] 2 Fx_law_pick (acons (var 1) (acons (cI 4) anil)))
noncomputable abbrev q81_7 : En → AH → RS := sIf (tcm dEq (var 6) (cI 0)) (sSet 3 (lcC [12] (wkR1 (dsp bLen (acons (var 4) anil))) (gN 12) tyes (bin ixD (var 3) (cal [] 3 Fx_law_first_alike (acons (var 2) (acons (var 5) (acons (var 12) anil))))))) skip
noncomputable abbrev q81_8 : En → AH → RS := sIf (tcm dEq (var 6) (cI 1)) (sSet 3 (lcC [16] (wS (var 4)) (gN 16) tyes (cal [] 2 Fx_law_sum (acons (bin ixD (var 3) (cI 0)) (acons (dsp mkT (acons (bin dMul (cI 5) (dsp bLen (acons (var 16) anil))) (acons (cI 1) anil))) anil))))) skip
noncomputable abbrev q81_9 : En → AH → RS := sSet 7 (cal [] 2 Fx_law_pick (acons (var 1) (acons (dsp bLen (acons (var 4) anil)) anil)))
noncomputable abbrev q81_10 : En → AH → RS := sIf (tcm dEq (cal [] 2 Fx_law_pick (acons (var 1) (acons (cI 2) anil))) (cI 1)) (sSto (var 3) (var 7) (cal [] 2 Fx_law_sum (acons (bin ixD (var 3) (var 7)) (acons (dsp mkT (acons (una dNeg (cI 1)) (acons (cI 2) anil))) anil)))) skip
noncomputable abbrev q81_11 : En → AH → RS := sSet 8 (cal [] 1 Fx_law_hand (acons (var 3) anil))
noncomputable abbrev q81_12 : En → AH → RS := sSet 9 (cal [] 2 Fprize_of (acons (var 8) (acons (var 2) anil)))
noncomputable abbrev q81_13 : En → AH → RS := sIf (tor (tnot (tst (cal [] 2 Fx_law_row_right (acons (var 9) (acons (dsp bLen (acons (var 4) anil)) anil))))) (tor (tcm dNe (var 9) (dsp bTup (acons (var 3) anil))) (tcm dNe (var 8) (cal [] 1 Fx_law_hand (acons (var 3) anil))))) (sRet (cB false)) skip
noncomputable abbrev q81_14 : En → AH → RS := sIf (tcm dNe (cal [] 2 Frising_break (acons (cal [] 1 Fx_law_hand (acons (var 3) anil)) (acons (var 2) anil))) (cal [] 2 Fx_law_falls (acons (var 2) (acons (var 3) anil)))) (sRet (cB false)) skip
noncomputable abbrev q81_15 : En → AH → RS := sIf (tcm dNe (cal [] 3 Fcounts_break (acons (cal [] 1 Fx_law_hand (acons (var 3) anil)) (acons (var 5) (acons (var 2) anil)))) (cal [] 3 Fx_law_uneven (acons (var 2) (acons (var 5) (acons (var 3) anil))))) (sRet (cB false)) skip
noncomputable abbrev q81_16 : En → AH → RS := sSet 10 (bin dAdd (dsp mkF (acons (bin ixD (var 3) (cI 1)) anil)) (slc mkF (var 3) (oS (cI 1)) (oS (bin dAdd (var 2) (cI 1)))))
noncomputable abbrev q81_17 : En → AH → RS := sSet 11 (cal [] 1 Fby_number (acons (cal [] 1 Fx_law_hand (acons (var 10) anil)) anil))
noncomputable abbrev q81_18 : En → AH → RS := sIf (tnot (tst (cal [] 2 Fx_law_row_right (acons (var 11) (acons (dsp bLen (acons (var 4) anil)) anil))))) (sRet (cB false)) skip
noncomputable abbrev q81_19 : En → AH → RS := sFor (wkR1 (dsp bLen (acons (var 4) anil))) (gN 12) (sIf (tcm dNe (bin ixD (var 11) (var 12)) (bin ixD (var 10) (dsp bLen (acons (bin ixD (var 4) (var 12)) anil)))) (sRet (cB false)) skip)
noncomputable abbrev q81_20 : En → AH → RS := sSet 13 (cal [] 2 Fx_law_low (acons (bin ixD (dsp mkF (acons (cI 2) (acons (una dNeg (cI 3)) (acons (cI 0) (acons (cI 5) anil))))) (cal [] 2 Fx_law_pick (acons (var 1) (acons (cI 4) anil)))) (acons (bin dAdd (cI 1) (cal [] 2 Fx_law_pick (acons (var 1) (acons (cI 3) anil)))) anil)))
noncomputable abbrev q81_21 : En → AH → RS := sSet 14 (calKK 4 3 1 (fun us ws => us ++ ws) Fprize_sum (acons (var 2) (acons (cal [] 1 Fx_law_hand (acons (var 3) anil)) (acons (var 11) anil))) (acons (var 13) anil))
noncomputable abbrev q81_22 : En → AH → RS := sSet 15 (cal [.int 1] 4 Fprize_sum (acons (var 2) (acons (cal [] 1 Fx_law_hand (acons (var 3) anil)) (acons (var 11) anil))))
noncomputable abbrev q81_23 : En → AH → RS := sIf (tor (tnot (tst (cal [] 2 Fx_law_row_right (acons (var 14) (acons (dsp bLen (acons (var 4) anil)) anil))))) (tnot (tst (cal [] 2 Fx_law_row_right (acons (var 15) (acons (dsp bLen (acons (var 4) anil)) anil)))))) (sRet (cB false)) skip
noncomputable abbrev q81_24 : En → AH → RS := sFor (wkR1 (dsp bLen (acons (var 4) anil))) (gN 12) (seq (sIf (tcm dNe (bin ixD (var 14) (var 12)) (cal [] 2 Fx_law_sum (acons (cal [] 2 Fx_law_mul (acons (var 13) (acons (bin ixD (var 3) (var 12)) anil))) (acons (bin ixD (var 11) (var 12)) anil)))) (sRet (cB false)) skip)
  (sIf (tcm dNe (bin ixD (var 15) (var 12)) (cal [] 2 Fx_law_sum (acons (bin ixD (var 3) (var 12)) (acons (bin ixD (var 11) (var 12)) anil)))) (sRet (cB false)) skip))
noncomputable abbrev q81_25 : En → AH → RS := sRet (cal [] 3 Fx_law_doors_k81 (acons (var 1) (acons (var 2) (acons (cal [] 1 Fx_law_hand (acons (var 3) anil)) anil))))
theorem q81_all : mlaw_k81 = seq q81_1 (seq q81_2 (seq q81_3 (seq q81_4 (seq q81_5 (seq q81_6 (seq q81_7 (seq q81_8 (seq q81_9 (seq q81_10 (seq q81_11 (seq q81_12 (seq q81_13 (seq q81_14 (seq q81_15 (seq q81_16 (seq q81_17 (seq q81_18 (seq q81_19 (seq q81_20 (seq q81_21 (seq q81_22 (seq q81_23 (seq q81_24 (q81_25)))))))))))))))))))))))) := rfl
abbrev E81 (ns : List Int) (n j : Nat) (bs : List (List Nat)) (kd ax hd td am md nu fc ad pn lt : Option D) : En := [some (.fix ns), some (.ref 0), some (.int (n : Int)), some (.ref (j + 1)), some (.lst (lots n)), some (blkD bs), kd, ax, hd, td, am, md, nu, fc, ad, pn, lt]
theorem q7_run (ns : List Int) {n m j : Nat} (h2 : n ≤ 5) {bs : List (List Nat)} (fw : Few n bs) (kd : Int) (p : List Int) {r : AH} {qs : List Rat} (hl : qs.length = 2 ^ n) (hz : ∀ q ∈ qs, Qz m q) (c : cellL r j = some (qs.map fr)) :
    ∃ (r' : AH) (j' : Nat) (qs' : List Rat), qs'.length = 2 ^ n ∧ (∀ q ∈ qs', Qz m q) ∧ cellL r' j' = some (qs'.map fr) ∧ q81_7 (E81 ns n j bs (some (.int kd)) none none none none none none none none none none) (hp p r) = .nx (E81 ns n j' bs (some (.int kd)) none none none none none none none none none none) (hp p r') := by
  have t : tcm dEq (var 6) (cI 0) (E81 ns n j bs (some (.int kd)) none none none none none none none none none none) (hp p r) = .ok (decide (kd = 0)) (hp p r) := x_eq rfl rfl
  by_cases k : kd = 0
  · rw [decide_eq_true k] at t
    obtain ⟨qs', l', z', e⟩ := alike_row (n := n) (m := m) (by omega) fw hl hz (en := E81 ns n j bs (some (.int kd)) none none none none none none none none none none) (h := hp p r) (d := .ref (j + 1)) rfl (fun _ => rfl) (fun _ => rfl) (fun _ => rfl) (fun _ => rfl) rfl c
    rw [app_hp, len_hp] at e
    exact ⟨r ++ [.vals (qs'.map fr)], r.length, qs', l', z', cell_end _ _, (if1 t).trans (set1 e)⟩
  · rw [decide_eq_false k] at t
    exact ⟨r, j, qs, hl, hz, c, (if0 t).trans rfl⟩
theorem q8_run (ns : List Int) {n m j : Nat} (h2 : n ≤ 5) (hm : m ≤ 3000) (m1 : 10 ≤ m) {bs : List (List Nat)} (kd : Int) (p : List Int) {r : AH} {qs : List Rat} (hl : qs.length = 2 ^ n) (hz : ∀ q ∈ qs, Qz m q) (c : cellL r j = some (qs.map fr)) :
    ∃ (r' : AH) (j' : Nat) (qs' : List Rat), qs'.length = 2 ^ n ∧ (∀ q ∈ qs', Qz (m + m + 1) q) ∧ cellL r' j' = some (qs'.map fr) ∧ q81_8 (E81 ns n j bs (some (.int kd)) none none none none none none none none none none) (hp p r) = .nx (E81 ns n j' bs (some (.int kd)) none none none none none none none none none none) (hp p r') := by
  have t : tcm dEq (var 6) (cI 1) (E81 ns n j bs (some (.int kd)) none none none none none none none none none none) (hp p r) = .ok (decide (kd = 1)) (hp p r) := x_eq rfl rfl
  by_cases k : kd = 1
  · rw [decide_eq_true k] at t
    obtain ⟨qs', l', z', e⟩ := number_row (n := n) (m := m) (by omega) hm m1 hl hz (en := E81 ns n j bs (some (.int kd)) none none none none none none none none none none) (h := hp p r) (d := .ref (j + 1)) (fun _ => rfl) (fun _ => rfl) rfl c
    rw [app_hp, len_hp] at e
    exact ⟨r ++ [.vals (qs'.map fr)], r.length, qs', l', z', cell_end _ _, (if1 t).trans (set1 e)⟩
  · rw [decide_eq_false k] at t
    exact ⟨r, j, qs, hl, fun q hq => (hz q hq).mono (by omega), c, (if0 t).trans rfl⟩
theorem q10_run (ns : List Int) {n m j k : Nat} (h2 : n ≤ 5) (hm : m ≤ 3000) (m1 : 10 ≤ m) {bs : List (List Nat)} (kd : Int) (hk : k < 2 ^ n) (p : List Int) {r : AH} {qs : List Rat} (hl : qs.length = 2 ^ n) (hz : ∀ q ∈ qs, Qz m q) (c : cellL r j = some (qs.map fr)) :
    ∃ (r' : AH) (qs' : List Rat), qs'.length = 2 ^ n ∧ (∀ q ∈ qs', Qz (m + m + 1) q) ∧ cellL r' j = some (qs'.map fr) ∧ q81_10 (E81 ns n j bs (some (.int kd)) (some (.int (k : Int))) none none none none none none none none none) (hp p r) = .nx (E81 ns n j bs (some (.int kd)) (some (.int (k : Int))) none none none none none none none none none) (hp p.dropLast r') := by
  have t : tcm dEq (cal [] 2 Fx_law_pick (acons (var 1) (acons (cI 2) anil))) (cI 1) (E81 ns n j bs (some (.int kd)) (some (.int (k : Int))) none none none none none none none none none) (hp p r) = .ok (decide (pk p 2 = 1)) (hp p.dropLast r) := tcm_ok (by
    rw [bin2 (d := .int (pk p 2)) (e := .int 1) (h1 := hp p.dropLast r) (h2 := hp p.dropLast r) (by rw [cal2 (d := .ref 0) (e := .int 2) rfl rfl, pick_eq _ _ (by omega)]) rfl, o_eqi])
  by_cases w : pk p 2 = 1
  · rw [decide_eq_true w] at t
    have zk : Qz m (qs.getD k 0) := hz _ (getD_mem (by omega))
    have e1 : cal [] 2 Fx_law_sum (acons (bin ixD (var 3) (var 7)) (acons (dsp mkT (acons (una dNeg (cI 1)) (acons (cI 2) anil))) anil)) (E81 ns n j bs (some (.int kd)) (some (.int (k : Int))) none none none none none none none none none) (hp p.dropLast r) = .ok (fr (qs.getD k 0 + (-1 : Int) /. 2)) (hp p.dropLast r) := by
      rw [cal2 (d := fr (qs.getD k 0)) (e := fr ((-1 : Int) /. 2)) (h1 := hp p.dropLast r) (h2 := hp p.dropLast r) (by rw [bin2 (d := .ref (j + 1)) (e := .int (k : Int)) rfl rfl]; exact ix_asS (d := .ref (j + 1)) c (by omega)) (by rw [← half_fr]; rfl), sum_eq (by omega : m ≤ 4000) zk (half_z.mono m1)]
    have ix : L2.ixN (qs.map fr).length (k : Int) = some k := by
      unfold L2.ixN
      rw [if_pos (by omega), if_pos (by rw [List.length_map]; omega)]
      rfl
    have g : goSt (E81 ns n j bs (some (.int kd)) (some (.int (k : Int))) none none none none none none none none none) (.ref (j + 1)) (.int (k : Int)) (fr (qs.getD k 0 + (-1 : Int) /. 2)) (hp p.dropLast r) = .nx (E81 ns n j bs (some (.int kd)) (some (.int (k : Int))) none none none none none none none none none) (hp p.dropLast (r.set j (.vals ((qs.set k (qs.getD k 0 + (-1 : Int) /. 2)).map fr)))) := by
      have c2 : cellL (hp p.dropLast r) (j + 1) = some (qs.map fr) := c
      unfold goSt stC
      simp only [c2, ix, Option.map_some]
      rw [List.map_set]
      rfl
    have hj : j < r.length := (List.getElem?_eq_some_iff.mp (cellL_eq c)).1
    refine ⟨r.set j (.vals ((qs.set k (qs.getD k 0 + (-1 : Int) /. 2)).map fr)), qs.set k (qs.getD k 0 + (-1 : Int) /. 2), by rw [List.length_set, hl], ?_, ?_, (if1 t).trans ?_⟩
    · intro q hq
      rcases List.mem_or_eq_of_mem_set hq with hq | rfl
      · exact (hz q hq).mono (by omega)
      · exact zk.add (half_z.mono m1)
    · unfold cellL
      rw [List.getElem?_set_self hj]
    · rw [a_sto, e1, bindS_ok]
      exact g
  · rw [decide_eq_false w] at t
    exact ⟨r, qs, hl, fun q hq => (hz q hq).mono (by omega), c, (if0 t).trans rfl⟩
theorem draw81 (ns : List Int) (hl : ns.length ≤ 63) (hz : ∀ z ∈ ns, Builtin.Int.intBits z ≤ 1048576) : ∃ (n j : Nat) (bs : List (List Nat)) (kd : Int) (k : Nat) (p : List Int) (r : AH) (qs : List Rat), 2 ≤ n ∧ n ≤ 5 ∧ BlkAt n bs ∧ qs.length = 2 ^ n ∧ (∀ q ∈ qs, Qz 251 q) ∧ cellL r j = some (qs.map fr) ∧
    ∀ K, seq q81_1 (seq q81_2 (seq q81_3 (seq q81_4 (seq q81_5 (seq q81_6 (seq q81_7 (seq q81_8 (seq q81_9 (seq q81_10 K))))))))) (startE 17 [.fix ns]) [] = K (E81 ns n j bs (some (.int kd)) (some (.int (k : Int))) none none none none none none none none none) (hp p r) := by
  obtain ⟨p0, e1⟩ := pool_eq ns hl hz
  obtain ⟨n, n1, n2, e2⟩ := size_eq p0 []
  have pw : 2 ^ n ≤ 2 ^ 5 := Nat.pow_le_pow_right (by omega) n2
  have pw0 := Nat.two_pow_pos n
  obtain ⟨p2, q3, l3, z3, e3⟩ := prize_eq (n := n) (by omega) p0.dropLast []
  obtain ⟨p3, bs, gb, e5⟩ := blocks_eq (n := n) n1 (by omega) p2 ([] ++ [.vals (q3.map fr)])
  have fw := (gb.blk (by omega)).few
  obtain ⟨r7, j7, q7, l7, z7, c7, e7⟩ := q7_run ns (n := n) (m := 62) (j := 0) n2 fw (pk p3 4) p3.dropLast (r := [] ++ [.vals (q3.map fr)]) l3 z3 rfl
  obtain ⟨r8, j8, q8, l8, z8, c8, e8⟩ := q8_run ns (n := n) (m := 62) n2 (by omega) (by omega) (bs := bs) (pk p3 4) p3.dropLast l7 z7 c7
  obtain ⟨k, ek, hk⟩ := pk_nat (ns := p3.dropLast) (m := 2 ^ n) (by omega)
  obtain ⟨r10, q10, l10, z10, c10, e10⟩ := q10_run ns (n := n) (m := 125) (k := k) n2 (by omega) (by omega) (bs := bs) (pk p3 4) hk p3.dropLast.dropLast l8 z8 c8
  refine ⟨n, j8, bs, pk p3 4, k, p3.dropLast.dropLast.dropLast, r10, q10, n1, n2, gb, l10, z10, c10, fun K => ?_⟩
  have s1 : q81_1 (startE 17 [.fix ns]) [] = .nx [some (.fix ns), some (.ref 0), none, none, none, none, none, none, none, none, none, none, none, none, none, none, none] (hp p0 []) := set1 ((cal1 (d := .fix ns) rfl).trans e1)
  have s2 : q81_2 [some (.fix ns), some (.ref 0), none, none, none, none, none, none, none, none, none, none, none, none, none, none, none] (hp p0 []) = .nx [some (.fix ns), some (.ref 0), some (.int (n : Int)), none, none, none, none, none, none, none, none, none, none, none, none, none, none] (hp p0.dropLast []) := set1 ((cal2 (d := .ref 0) (e := .int 5) rfl rfl).trans e2)
  have s3 : q81_3 [some (.fix ns), some (.ref 0), some (.int (n : Int)), none, none, none, none, none, none, none, none, none, none, none, none, none, none] (hp p0.dropLast []) = .nx [some (.fix ns), some (.ref 0), some (.int (n : Int)), some (.ref 1), none, none, none, none, none, none, none, none, none, none, none, none, none] (hp p2 ([] ++ [.vals (q3.map fr)])) := set1 ((cal2 (d := .ref 0) (e := .int (n : Int)) rfl rfl).trans e3)
  have s4 : q81_4 [some (.fix ns), some (.ref 0), some (.int (n : Int)), some (.ref 1), none, none, none, none, none, none, none, none, none, none, none, none, none] (hp p2 ([] ++ [.vals (q3.map fr)])) = .nx [some (.fix ns), some (.ref 0), some (.int (n : Int)), some (.ref 1), some (.lst (lots n)), none, none, none, none, none, none, none, none, none, none, none, none] (hp p2 ([] ++ [.vals (q3.map fr)])) := set1 ((cal1 (d := .int (n : Int)) rfl).trans (lots_eq (by omega) _))
  have s5 : q81_5 [some (.fix ns), some (.ref 0), some (.int (n : Int)), some (.ref 1), some (.lst (lots n)), none, none, none, none, none, none, none, none, none, none, none, none] (hp p2 ([] ++ [.vals (q3.map fr)])) = .nx [some (.fix ns), some (.ref 0), some (.int (n : Int)), some (.ref 1), some (.lst (lots n)), some (blkD bs), none, none, none, none, none, none, none, none, none, none, none] (hp p3 ([] ++ [.vals (q3.map fr)])) := set1 ((cal2 (d := .ref 0) (e := .int (n : Int)) rfl rfl).trans e5)
  have s6 : q81_6 [some (.fix ns), some (.ref 0), some (.int (n : Int)), some (.ref 1), some (.lst (lots n)), some (blkD bs), none, none, none, none, none, none, none, none, none, none, none] (hp p3 ([] ++ [.vals (q3.map fr)])) = .nx (E81 ns n 0 bs (some (.int (pk p3 4))) none none none none none none none none none none) (hp p3.dropLast ([] ++ [.vals (q3.map fr)])) := set1 ((cal2 (d := .ref 0) (e := .int 4) rfl rfl).trans (pick_eq _ _ (by omega)))
  have s9 : q81_9 (E81 ns n j8 bs (some (.int (pk p3 4))) none none none none none none none none none none) (hp p3.dropLast r8) = .nx (E81 ns n j8 bs (some (.int (pk p3 4))) (some (.int (k : Int))) none none none none none none none none none) (hp p3.dropLast.dropLast r8) := set1 (by
    rw [cal2 (d := .ref 0) (e := .int ((2 ^ n : Nat) : Int)) (h1 := hp p3.dropLast r8) (h2 := hp p3.dropLast r8) rfl (by rw [dsp1 (d := .lst (lots n)) rfl, a_lenL, lots_len]), pick_eq _ _ (by omega), ek])
  exact (seq1 s1).trans ((seq1 s2).trans ((seq1 s3).trans ((seq1 s4).trans ((seq1 s5).trans ((seq1 s6).trans ((seq1 e7).trans ((seq1 e8).trans ((seq1 s9).trans (seq1 e10)))))))))
end Sh
/-! Plain laws, part 23: k81's body, the rest. -/
namespace Sh
open PySem Cb
open scoped Rat

theorem len_lots {n : Nat} {en : En} {h : AH} (e4 : var 4 en h = .ok (.lst (lots n)) h) : dsp bLen (acons (var 4) anil) en h = .ok (.int ((2 ^ n : Nat) : Int)) h := by rw [dsp1 e4, a_lenL, lots_len]
theorem pass0 {g : En → AH → Res Bool} {en : En} {h h' : AH} (e : g en h = .ok false h') : sIf g (sRet (cB false)) skip en h = .nx en h' := (if0 e).trans rfl
theorem kw81 {a b c f : D} {en : En} {h : AH} {ga gb gc gf : En → AH → Res D} (ea : ga en h = .ok a h) (eb : gb en h = .ok b h) (ec : gc en h = .ok c h) (ef : gf en h = .ok f h) : calKK 4 3 1 (fun us ws => us ++ ws) Fprize_sum (acons ga (acons gb (acons gc anil))) (acons gf anil) en h = Fprize_sum [a, b, c, f] h := by
  show ((acons ga (acons gb (acons gc anil)) en h).bind fun ds h1 => (acons gf anil en h1).bind fun zs h2 => bif (ds.length == 3 && zs.length == 1) && ((ds ++ zs).length == 4) then Fprize_sum (ds ++ zs) h2 else .stuck) = _
  rw [as3 ea eb ec, bind_ok, as1 ef, bind_ok]
  rfl
theorem dflt81 {a b c : D} {en : En} {h : AH} {ga gb gc : En → AH → Res D} (ea : ga en h = .ok a h) (eb : gb en h = .ok b h) (ec : gc en h = .ok c h) : cal [.int 1] 4 Fprize_sum (acons ga (acons gb (acons gc anil))) en h = Fprize_sum [a, b, c, .int 1] h := by
  rw [a_cal, as3 ea eb ec, bind_ok]
  rfl
theorem sums_mem {f : Rat} {m : Nat} (hf : Qz m f) (m1 : 1 ≤ m) : ∀ (ps qs : List Rat), (∀ q ∈ ps, Qz m q) → (∀ q ∈ qs, Qz m q) → ∀ q ∈ sums f ps qs, Qz (m + m + (m + m) + 1) q
  | p :: ps, q :: qs, hp, hq, x, hx => by
    rcases List.mem_cons.mp (show x ∈ (f * p + q) :: sums f ps qs from hx) with rfl | hx
    · exact (hf.mul (hp p (by simp)) m1).add ((hq q (by simp)).mono (by omega))
    · exact sums_mem hf m1 ps qs (fun y hy => hp y (by simp [hy])) (fun y hy => hq y (by simp [hy])) x hx
  | [], _, _, _, _, hx => nomatch hx
  | _ :: _, [], _, _, _, hx => nomatch hx
theorem byN_mem {n m : Nat} {qs : List Rat} (hl : qs.length = n + 1) (hz : ∀ q ∈ qs, Qz m q) : ∀ q ∈ byN n qs, Qz m q := by
  intro q hq
  obtain ⟨k, _, rfl⟩ := List.mem_map.mp hq
  have := pl_len n k
  exact hz _ (getD_mem (by omega))
theorem byN_get {n k : Nat} (qs : List Rat) (hk : k < 2 ^ n) : (byN n qs).getD k 0 = qs.getD (pl n k).length 0 := by
  have e : (byN n qs)[k]? = some (qs.getD (pl n k).length 0) := by
    unfold byN
    rw [List.getElem?_map, List.getElem?_range hk]
    rfl
  rw [List.getD_eq_getElem?_getD, e]
  rfl
theorem sums_getD {f : Rat} {ps qs : List Rat} {k : Nat} (h1 : k < ps.length) (h2 : k < qs.length) : (sums f ps qs).getD k 0 = f * ps.getD k 0 + qs.getD k 0 := by
  have e := sums_get f ps qs k _ _ (getD_get h1) (getD_get h2)
  rw [List.getD_eq_getElem?_getD, e]
  rfl
theorem one_mul' (p q : Rat) : (((1 : Int) : Rat)) * p + q = p + q := by
  rw [show (((1 : Int) : Rat)) = 1 from rfl, Rat.one_mul]
theorem rest81 (ns : List Int) {n j : Nat} (n1 : 2 ≤ n) (n2 : n ≤ 5) {bs : List (List Nat)} (gb : BlkAt n bs) (kd : Int) (k : Nat) (p : List Int) {r : AH} {qs : List Rat} (hl : qs.length = 2 ^ n) (hz : ∀ q ∈ qs, Qz 251 q) (c : cellL r j = some (qs.map fr)) :
    ∃ p', (seq q81_11 (seq q81_12 (seq q81_13 (seq q81_14 (seq q81_15 (seq q81_16 (seq q81_17 (seq q81_18 (seq q81_19 (seq q81_20 (seq q81_21 (seq q81_22 (seq q81_23 (seq q81_24 q81_25)))))))))))))) (E81 ns n j bs (some (.int kd)) (some (.int (k : Int))) none none none none none none none none none) (hp p r) = .ret (.bl true) (hp p' r) := by
  have pw : 2 ^ n ≤ 2 ^ 5 := Nat.pow_le_pow_right (by omega) n2
  have pw2 : 2 ^ 2 ≤ 2 ^ n := Nat.pow_le_pow_right (by omega) n1
  have pw0 := Nat.two_pow_pos n
  have n3 : n ≤ 6 := by omega
  have gbk := gb.blk n3
  have fw := gbk.few
  have cc : ∀ p, asS (hp p r) (.ref (j + 1)) = some (qs.map fr) := fun _ => c
  have hd : ∀ p, Fx_law_hand [.ref (j + 1)] (hp p r) = .ok (.lst (hands 0 qs)) (hp p r) := fun p => hand_eq (by omega : 251 ≤ 4000) (cc p) hz (by omega)
  have pz : ∀ p, Fprize_of [.lst (hands 0 qs), .int (n : Int)] (hp p r) = .ok (.tup (qs.map fr)) (hp p r) := fun p => prize_hand (by omega : 251 ≤ 4000) n1 n3 _ hl hz
  -- hand, told
  have s11 : q81_11 (E81 ns n j bs (some (.int kd)) (some (.int (k : Int))) none none none none none none none none none) (hp p r) = .nx (E81 ns n j bs (some (.int kd)) (some (.int (k : Int))) (some (.lst (hands 0 qs))) none none none none none none none none) (hp p r) := set1 ((cal1 (d := .ref (j + 1)) rfl).trans (hd p))
  have s12 : q81_12 (E81 ns n j bs (some (.int kd)) (some (.int (k : Int))) (some (.lst (hands 0 qs))) none none none none none none none none) (hp p r) = .nx (E81 ns n j bs (some (.int kd)) (some (.int (k : Int))) (some (.lst (hands 0 qs))) (some (.tup (qs.map fr))) none none none none none none none) (hp p r) := set1 ((cal2 (d := .lst (hands 0 qs)) (e := .int (n : Int)) rfl rfl).trans (pz p))
  have s13 : q81_13 (E81 ns n j bs (some (.int kd)) (some (.int (k : Int))) (some (.lst (hands 0 qs))) (some (.tup (qs.map fr))) none none none none none none none) (hp p r) = .nx (E81 ns n j bs (some (.int kd)) (some (.int (k : Int))) (some (.lst (hands 0 qs))) (some (.tup (qs.map fr))) none none none none none none none) (hp p r) := by
    refine pass0 ((tor_f (h1 := hp p r) (tnot_ok (b := true) (tst_ok ?_))).trans ((tor_f (h1 := hp p r) (tcm_ok ?_)).trans (tcm_ok ?_)))
    · rw [cal2 (d := .tup (qs.map fr)) (e := .int ((2 ^ n : Nat) : Int)) (h1 := hp p r) (h2 := hp p r) rfl (len_lots rfl), ← hl]
      exact row_right_eq (by omega : 251 ≤ 9000) hz _
    · rw [bin2 (d := .tup (qs.map fr)) (e := .tup (qs.map fr)) (h1 := hp p r) (h2 := hp p r) rfl (by rw [dsp1 (d := .ref (j + 1)) rfl, a_bTupR (k := j + 1) (c : cellL (hp p r) (j + 1) = _), mkT_le (by rw [List.length_map]; omega)]), ne_self (nice_frs qs)]
    · rw [bin2 (d := .lst (hands 0 qs)) (e := .lst (hands 0 qs)) (h1 := hp p r) (h2 := hp p r) rfl ((cal1 (d := .ref (j + 1)) rfl).trans (hd p)), ne_self (nice_hands qs)]
  have s14 : q81_14 (E81 ns n j bs (some (.int kd)) (some (.int (k : Int))) (some (.lst (hands 0 qs))) (some (.tup (qs.map fr))) none none none none none none none) (hp p r) = .nx (E81 ns n j bs (some (.int kd)) (some (.int (k : Int))) (some (.lst (hands 0 qs))) (some (.tup (qs.map fr))) none none none none none none none) (hp p r) :=
    pass (t := fallD n qs) ((cal2 (d := .lst (hands 0 qs)) (e := .int (n : Int)) (h1 := hp p r) ((cal1 (d := .ref (j + 1)) rfl).trans (hd p)) rfl).trans (rising_eq (by omega : 251 ≤ 4000) n1 n3 (pz p) hl hz)) ((cal2 (d := .int (n : Int)) (e := .ref (j + 1)) rfl rfl).trans (falls_eq (by omega : 251 ≤ 4000) n3 (cc p) hl hz)) (ne_self (nice_fall n qs) _)
  have ck : Fcheck_blocks [blkD bs, .int (n : Int)] (hp p r) = .ok (tldD bs) (hp p r) := by
    rw [check_run n1 n3 gbk, gb.off]
  have s15 : q81_15 (E81 ns n j bs (some (.int kd)) (some (.int (k : Int))) (some (.lst (hands 0 qs))) (some (.tup (qs.map fr))) none none none none none none none) (hp p r) = .nx (E81 ns n j bs (some (.int kd)) (some (.int (k : Int))) (some (.lst (hands 0 qs))) (some (.tup (qs.map fr))) none none none none none none none) (hp p r) :=
    pass (t := unD n qs bs) ((cal3 (d := .lst (hands 0 qs)) (e := blkD bs) (x := .int (n : Int)) (h1 := hp p r) ((cal1 (d := .ref (j + 1)) rfl).trans (hd p)) rfl rfl).trans (cbreak_eq (by omega : 251 ≤ 4000) n1 n3 fw (pz p) ck hl)) ((cal3 (d := .int (n : Int)) (e := blkD bs) (x := .ref (j + 1)) rfl rfl rfl).trans (uneven_eq n3 fw (cc p) hl)) (ne_self (nice_un n qs bs) _)
  -- amounts, made
  have ha := amts_len n1 n2 hl
  have za := amts_mem (n := n) (by omega : 1 < qs.length) hz
  have e16 : bin dAdd (dsp mkF (acons (bin ixD (var 3) (cI 1)) anil)) (slc mkF (var 3) (oS (cI 1)) (oS (bin dAdd (var 2) (cI 1)))) (E81 ns n j bs (some (.int kd)) (some (.int (k : Int))) (some (.lst (hands 0 qs))) (some (.tup (qs.map fr))) none none none none none none none) (hp p r) = .ok (.lst ((amts n qs).map fr)) (hp p r) := by
    rw [bin2 (d := .lst [fr (qs.getD 1 0)]) (e := .lst (((qs.drop 1).take n).map fr)) (h1 := hp p r) (h2 := hp p r) (by
      rw [dsp1 (d := fr (qs.getD 1 0)) (h1 := hp p r) (by rw [bin2 (d := .ref (j + 1)) (e := .int ((1 : Nat) : Int)) rfl rfl, ix_asS (cc p) (by omega)]), mkF_1]) (by
      rw [slc_lst (h := hp p r) (d := .ref (j + 1)) (l := qs.map fr) (lo := some 1) (hi := some ((n : Int) + 1)) rfl rfl rfl c (by rw [List.length_map]; omega), cut_amts n1 n2 hl])]
    have := ha
    rw [o_addL (by
      show 1 + (((qs.drop 1).take n).map fr).length ≤ _
      rw [List.length_map, List.length_take]; omega)]
    rfl
  have s16 : q81_16 (E81 ns n j bs (some (.int kd)) (some (.int (k : Int))) (some (.lst (hands 0 qs))) (some (.tup (qs.map fr))) none none none none none none none) (hp p r) = .nx (E81 ns n j bs (some (.int kd)) (some (.int (k : Int))) (some (.lst (hands 0 qs))) (some (.tup (qs.map fr))) (some (.lst ((amts n qs).map fr))) none none none none none none) (hp p r) := set1 e16
  have s17 : q81_17 (E81 ns n j bs (some (.int kd)) (some (.int (k : Int))) (some (.lst (hands 0 qs))) (some (.tup (qs.map fr))) (some (.lst ((amts n qs).map fr))) none none none none none none) (hp p r) = .nx (E81 ns n j bs (some (.int kd)) (some (.int (k : Int))) (some (.lst (hands 0 qs))) (some (.tup (qs.map fr))) (some (.lst ((amts n qs).map fr))) (some (.tup ((byN n (amts n qs)).map fr))) none none none none none) (hp p r) :=
    set1 ((cal1 (d := .lst (hands 0 (amts n qs))) (h1 := hp p r) ((cal1 (d := .lst ((amts n qs).map fr)) rfl).trans (hand_eq (by omega : 251 ≤ 4000) (d := .lst ((amts n qs).map fr)) rfl za (by omega)))).trans (by_eq (by omega : 251 ≤ 4000) n1 n3 _ ha za))
  have zb := byN_mem ha za
  have lb := byN_len n (amts n qs)
  have s18 : q81_18 (E81 ns n j bs (some (.int kd)) (some (.int (k : Int))) (some (.lst (hands 0 qs))) (some (.tup (qs.map fr))) (some (.lst ((amts n qs).map fr))) (some (.tup ((byN n (amts n qs)).map fr))) none none none none none) (hp p r) = .nx (E81 ns n j bs (some (.int kd)) (some (.int (k : Int))) (some (.lst (hands 0 qs))) (some (.tup (qs.map fr))) (some (.lst ((amts n qs).map fr))) (some (.tup ((byN n (amts n qs)).map fr))) none none none none none) (hp p r) := by
    refine pass0 (tnot_ok (b := true) (tst_ok ?_))
    rw [cal2 (d := .tup ((byN n (amts n qs)).map fr)) (e := .int ((2 ^ n : Nat) : Int)) (h1 := hp p r) (h2 := hp p r) rfl (len_lots rfl), ← lb]
    exact row_right_eq (by omega : 251 ≤ 9000) zb _
  have cm : ∀ i, i < 2 ^ n → (byN n (amts n qs)).getD i 0 = (amts n qs).getD (pl n i).length 0 := fun i hi => byN_get _ hi
  -- made against amounts
  have s19 : ∃ x, q81_19 (E81 ns n j bs (some (.int kd)) (some (.int (k : Int))) (some (.lst (hands 0 qs))) (some (.tup (qs.map fr))) (some (.lst ((amts n qs).map fr))) (some (.tup ((byN n (amts n qs)).map fr))) none none none none none) (hp p r) = .nx (E81 ns n j bs (some (.int kd)) (some (.int (k : Int))) (some (.lst (hands 0 qs))) (some (.tup (qs.map fr))) (some (.lst ((amts n qs).map fr))) (some (.tup ((byN n (amts n qs)).map fr))) x none none none none) (hp p r) := by
    have hw : wkR1 (dsp bLen (acons (var 4) anil)) (E81 ns n j bs (some (.int kd)) (some (.int (k : Int))) (some (.lst (hands 0 qs))) (some (.tup (qs.map fr))) (some (.lst ((amts n qs).map fr))) (some (.tup ((byN n (amts n qs)).map fr))) none none none none none) (hp p r) = .ok ⟨rngI 0 1 (2 ^ n), []⟩ (hp p r) := w_rng1 (len_lots rfl) (by omega)
    obtain ⟨en', h', e, ⟨x, rfl⟩, rfl⟩ := for_rng (n := 2 ^ n) (j := 12) (b := sIf (tcm dNe (bin ixD (var 11) (var 12)) (bin ixD (var 10) (dsp bLen (acons (bin ixD (var 4) (var 12)) anil)))) (sRet (cB false)) skip) (fun _ en h' => (∃ x, en = (E81 ns n j bs (some (.int kd)) (some (.int (k : Int))) (some (.lst (hands 0 qs))) (some (.tup (qs.map fr))) (some (.lst ((amts n qs).map fr))) (some (.tup ((byN n (amts n qs)).map fr))) x none none none none)) ∧ h' = hp p r) (en := (E81 ns n j bs (some (.int kd)) (some (.int (k : Int))) (some (.lst (hands 0 qs))) (some (.tup (qs.map fr))) (some (.lst ((amts n qs).map fr))) (some (.tup ((byN n (amts n qs)).map fr))) none none none none none)) (h := hp p r) ⟨⟨none, rfl⟩, rfl⟩ (by
      rintro i hi en h' ⟨⟨x, rfl⟩, rfl⟩
      refine ⟨(E81 ns n j bs (some (.int kd)) (some (.int (k : Int))) (some (.lst (hands 0 qs))) (some (.tup (qs.map fr))) (some (.lst ((amts n qs).map fr))) (some (.tup ((byN n (amts n qs)).map fr))) (some (.int (i : Int))) none none none none), hp p r, .inl ?_, ⟨_, rfl⟩, rfl⟩
      have pll := pl_len n i
      refine pass (t := fr ((byN n (amts n qs)).getD i 0)) ?_ ?_ (ne_self (nice_fr _) _)
      · exact (bin2 (d := .tup ((byN n (amts n qs)).map fr)) (e := .int (i : Int)) rfl rfl).trans (ix_tupN _ (by omega))
      · rw [cm i hi]
        exact (bin2 (d := .lst ((amts n qs).map fr)) (e := .int ((pl n i).length : Nat)) (h1 := hp p r) (h2 := hp p r) rfl ((dsp1 (d := lotL n i) (h1 := hp p r) ((bin2 (d := .lst (lots n)) (e := .int (i : Int)) rfl rfl).trans (ix_nat _ rfl (lots_get hi)))).trans (by unfold lotL; rw [a_lenL, natsD_len]))).trans (ix_asS (d := .lst ((amts n qs).map fr)) rfl (by omega)))
    refine ⟨x, ?_⟩
    show (wkR1 (dsp bLen (acons (var 4) anil)) (E81 ns n j bs (some (.int kd)) (some (.int (k : Int))) (some (.lst (hands 0 qs))) (some (.tup (qs.map fr))) (some (.lst ((amts n qs).map fr))) (some (.tup ((byN n (amts n qs)).map fr))) none none none none none) (hp p r)).bindS _ _ = _
    rw [hw, bindS_ok]
    exact e
  obtain ⟨x, s19⟩ := s19
  -- the factor
  obtain ⟨t, ht, e20⟩ := x_tab (f := dsp mkF (acons (cI 2) (acons (una dNeg (cI 3)) (acons (cI 0) (acons (cI 5) anil))))) (g := cal [] 2 Fx_law_pick (acons (var 1) (acons (cI 4) anil))) (en := (E81 ns n j bs (some (.int kd)) (some (.int (k : Int))) (some (.lst (hands 0 qs))) (some (.tup (qs.map fr))) (some (.lst ((amts n qs).map fr))) (some (.tup ((byN n (amts n qs)).map fr))) x none none none none)) (h := hp p r) (h' := hp p.dropLast r) (l := [2, -3, 0, 5]) (i := pk p 4) rfl ((cal2 (d := .ref 0) (e := .int 4) rfl rfl).trans (pick_eq _ _ (by omega))) (pk_lo (by omega)) (pk_hi (by omega))
  generalize p.dropLast = p1 at e20
  have zt : Sz 4 t := sz_small ht (by decide)
  have b0 : 0 ≤ pk p1 3 := pk_lo (by omega)
  have b1 : pk p1 3 < 3 := pk_hi (by omega)
  have zd : Sz 4 (1 + pk p1 3) := sz_lt (by omega) (by omega)
  have e20b : bin dAdd (cI 1) (cal [] 2 Fx_law_pick (acons (var 1) (acons (cI 3) anil))) (E81 ns n j bs (some (.int kd)) (some (.int (k : Int))) (some (.lst (hands 0 qs))) (some (.tup (qs.map fr))) (some (.lst ((amts n qs).map fr))) (some (.tup ((byN n (amts n qs)).map fr))) x none none none none) (hp p1 r) = .ok (.int (1 + pk p1 3)) (hp p1.dropLast r) := (bin2 (d := .int 1) (e := .int (pk p1 3)) (h1 := hp p1 r) rfl ((cal2 (d := .ref 0) (e := .int 3) rfl rfl).trans (pick_eq _ _ (by omega)))).trans rfl
  have el := low_eq (by omega : 4 ≤ 9000) zt zd (by omega) (hp p1.dropLast r)
  have zf : Qz 251 (t /. (1 + pk p1 3)) := (Qz.div zt zd (by omega)).mono (by omega)
  generalize t /. (1 + pk p1 3) = f at el zf
  have s20 : q81_20 (E81 ns n j bs (some (.int kd)) (some (.int (k : Int))) (some (.lst (hands 0 qs))) (some (.tup (qs.map fr))) (some (.lst ((amts n qs).map fr))) (some (.tup ((byN n (amts n qs)).map fr))) x none none none none) (hp p r) = .nx (E81 ns n j bs (some (.int kd)) (some (.int (k : Int))) (some (.lst (hands 0 qs))) (some (.tup (qs.map fr))) (some (.lst ((amts n qs).map fr))) (some (.tup ((byN n (amts n qs)).map fr))) x (some (fr f)) none none none) (hp p1.dropLast r) := set1 ((cal2 e20 e20b).trans el)
  generalize p1.dropLast = p2 at s20
  have mt : ∀ p, Fprize_of [.tup ((byN n (amts n qs)).map fr), .int (n : Int)] (hp p r) = .ok (.tup ((byN n (amts n qs)).map fr)) (hp p r) := fun p => prize_tup (by omega : 251 ≤ 4000) n1 n3 _ lb zb
  have s21 : q81_21 (E81 ns n j bs (some (.int kd)) (some (.int (k : Int))) (some (.lst (hands 0 qs))) (some (.tup (qs.map fr))) (some (.lst ((amts n qs).map fr))) (some (.tup ((byN n (amts n qs)).map fr))) x (some (fr f)) none none none) (hp p2 r) = .nx (E81 ns n j bs (some (.int kd)) (some (.int (k : Int))) (some (.lst (hands 0 qs))) (some (.tup (qs.map fr))) (some (.lst ((amts n qs).map fr))) (some (.tup ((byN n (amts n qs)).map fr))) x (some (fr f)) (some (.tup ((sums f qs (byN n (amts n qs))).map fr))) none none) (hp p2 r) := set1 ((kw81 (a := .int (n : Int)) (b := .lst (hands 0 qs)) (c := .tup ((byN n (amts n qs)).map fr)) (f := fr f) rfl ((cal1 (d := .ref (j + 1)) rfl).trans (hd p2)) rfl rfl).trans (sum_run (by omega : 251 ≤ 1000) n1 n3 (pz p2) (mt p2) (fraction_fr (by omega : 251 ≤ 9000) zf "factor" _) hl lb hz zb zf (by omega)))
  have one : Ffraction_of [.int 1, .str "factor"] (hp p2 r) = .ok (fr (((1 : Int) : Rat))) (hp p2 r) := by
    rw [fraction_eq (n := 1) (by omega) (d := .int 1) trivial]
    rfl
  have z1 : Qz 251 (((1 : Int) : Rat)) := ⟨(show Sz 1 (1 : Int) by unfold Sz; decide).mono (by omega), (show Sz 1 ((1 : Nat) : Int) by unfold Sz; decide).mono (by omega)⟩
  have s22 : q81_22 (E81 ns n j bs (some (.int kd)) (some (.int (k : Int))) (some (.lst (hands 0 qs))) (some (.tup (qs.map fr))) (some (.lst ((amts n qs).map fr))) (some (.tup ((byN n (amts n qs)).map fr))) x (some (fr f)) (some (.tup ((sums f qs (byN n (amts n qs))).map fr))) none none) (hp p2 r) = .nx (E81 ns n j bs (some (.int kd)) (some (.int (k : Int))) (some (.lst (hands 0 qs))) (some (.tup (qs.map fr))) (some (.lst ((amts n qs).map fr))) (some (.tup ((byN n (amts n qs)).map fr))) x (some (fr f)) (some (.tup ((sums f qs (byN n (amts n qs))).map fr))) (some (.tup ((sums (((1 : Int) : Rat)) qs (byN n (amts n qs))).map fr))) none) (hp p2 r) := set1 ((dflt81 (a := .int (n : Int)) (b := .lst (hands 0 qs)) (c := .tup ((byN n (amts n qs)).map fr)) rfl ((cal1 (d := .ref (j + 1)) rfl).trans (hd p2)) rfl).trans (sum_run (by omega : 251 ≤ 1000) n1 n3 (pz p2) (mt p2) one hl lb hz zb z1 (by omega)))
  have lq : qs.length = (byN n (amts n qs)).length := by rw [hl, lb]
  have l1 := sums_len f _ _ lq
  have l2 := sums_len (((1 : Int) : Rat)) _ _ lq
  have zs1 := sums_mem zf (by omega) qs (byN n (amts n qs)) hz zb
  have zs2 := sums_mem z1 (by omega) qs (byN n (amts n qs)) hz zb
  have s23 : q81_23 (E81 ns n j bs (some (.int kd)) (some (.int (k : Int))) (some (.lst (hands 0 qs))) (some (.tup (qs.map fr))) (some (.lst ((amts n qs).map fr))) (some (.tup ((byN n (amts n qs)).map fr))) x (some (fr f)) (some (.tup ((sums f qs (byN n (amts n qs))).map fr))) (some (.tup ((sums (((1 : Int) : Rat)) qs (byN n (amts n qs))).map fr))) none) (hp p2 r) = .nx (E81 ns n j bs (some (.int kd)) (some (.int (k : Int))) (some (.lst (hands 0 qs))) (some (.tup (qs.map fr))) (some (.lst ((amts n qs).map fr))) (some (.tup ((byN n (amts n qs)).map fr))) x (some (fr f)) (some (.tup ((sums f qs (byN n (amts n qs))).map fr))) (some (.tup ((sums (((1 : Int) : Rat)) qs (byN n (amts n qs))).map fr))) none) (hp p2 r) := by
    refine pass0 ((tor_f (h1 := hp p2 r) (tnot_ok (b := true) (tst_ok ?_))).trans (tnot_ok (b := true) (tst_ok ?_)))
    · rw [cal2 (d := .tup ((sums f qs (byN n (amts n qs))).map fr)) (e := .int ((2 ^ n : Nat) : Int)) (h1 := hp p2 r) (h2 := hp p2 r) rfl (len_lots rfl), ← hl, ← l1]
      exact row_right_eq (by omega) zs1 _
    · rw [cal2 (d := .tup ((sums (((1 : Int) : Rat)) qs (byN n (amts n qs))).map fr)) (e := .int ((2 ^ n : Nat) : Int)) (h1 := hp p2 r) (h2 := hp p2 r) rfl (len_lots rfl), ← hl, ← l2]
      exact row_right_eq (by omega) zs2 _
  have s24 : ∃ y, q81_24 (E81 ns n j bs (some (.int kd)) (some (.int (k : Int))) (some (.lst (hands 0 qs))) (some (.tup (qs.map fr))) (some (.lst ((amts n qs).map fr))) (some (.tup ((byN n (amts n qs)).map fr))) x (some (fr f)) (some (.tup ((sums f qs (byN n (amts n qs))).map fr))) (some (.tup ((sums (((1 : Int) : Rat)) qs (byN n (amts n qs))).map fr))) none) (hp p2 r) = .nx (E81 ns n j bs (some (.int kd)) (some (.int (k : Int))) (some (.lst (hands 0 qs))) (some (.tup (qs.map fr))) (some (.lst ((amts n qs).map fr))) (some (.tup ((byN n (amts n qs)).map fr))) y (some (fr f)) (some (.tup ((sums f qs (byN n (amts n qs))).map fr))) (some (.tup ((sums (((1 : Int) : Rat)) qs (byN n (amts n qs))).map fr))) none) (hp p2 r) := by
    have hw : wkR1 (dsp bLen (acons (var 4) anil)) (E81 ns n j bs (some (.int kd)) (some (.int (k : Int))) (some (.lst (hands 0 qs))) (some (.tup (qs.map fr))) (some (.lst ((amts n qs).map fr))) (some (.tup ((byN n (amts n qs)).map fr))) x (some (fr f)) (some (.tup ((sums f qs (byN n (amts n qs))).map fr))) (some (.tup ((sums (((1 : Int) : Rat)) qs (byN n (amts n qs))).map fr))) none) (hp p2 r) = .ok ⟨rngI 0 1 (2 ^ n), []⟩ (hp p2 r) := w_rng1 (len_lots rfl) (by omega)
    obtain ⟨en', h', e, ⟨y, rfl⟩, rfl⟩ := for_rng (n := 2 ^ n) (j := 12) (b := seq (sIf (tcm dNe (bin ixD (var 14) (var 12)) (cal [] 2 Fx_law_sum (acons (cal [] 2 Fx_law_mul (acons (var 13) (acons (bin ixD (var 3) (var 12)) anil))) (acons (bin ixD (var 11) (var 12)) anil)))) (sRet (cB false)) skip)
  (sIf (tcm dNe (bin ixD (var 15) (var 12)) (cal [] 2 Fx_law_sum (acons (bin ixD (var 3) (var 12)) (acons (bin ixD (var 11) (var 12)) anil)))) (sRet (cB false)) skip)) (fun _ en h' => (∃ x, en = (E81 ns n j bs (some (.int kd)) (some (.int (k : Int))) (some (.lst (hands 0 qs))) (some (.tup (qs.map fr))) (some (.lst ((amts n qs).map fr))) (some (.tup ((byN n (amts n qs)).map fr))) x (some (fr f)) (some (.tup ((sums f qs (byN n (amts n qs))).map fr))) (some (.tup ((sums (((1 : Int) : Rat)) qs (byN n (amts n qs))).map fr))) none)) ∧ h' = hp p2 r) (en := (E81 ns n j bs (some (.int kd)) (some (.int (k : Int))) (some (.lst (hands 0 qs))) (some (.tup (qs.map fr))) (some (.lst ((amts n qs).map fr))) (some (.tup ((byN n (amts n qs)).map fr))) x (some (fr f)) (some (.tup ((sums f qs (byN n (amts n qs))).map fr))) (some (.tup ((sums (((1 : Int) : Rat)) qs (byN n (amts n qs))).map fr))) none)) (h := hp p2 r) ⟨⟨x, rfl⟩, rfl⟩ (by
      rintro i hi en h' ⟨⟨y, rfl⟩, rfl⟩
      refine ⟨(E81 ns n j bs (some (.int kd)) (some (.int (k : Int))) (some (.lst (hands 0 qs))) (some (.tup (qs.map fr))) (some (.lst ((amts n qs).map fr))) (some (.tup ((byN n (amts n qs)).map fr))) (some (.int (i : Int))) (some (fr f)) (some (.tup ((sums f qs (byN n (amts n qs))).map fr))) (some (.tup ((sums (((1 : Int) : Rat)) qs (byN n (amts n qs))).map fr))) none), hp p2 r, .inl ?_, ⟨_, rfl⟩, rfl⟩
      have zq : Qz 251 (qs.getD i 0) := hz _ (getD_mem (by omega))
      have zm : Qz 251 ((byN n (amts n qs)).getD i 0) := zb _ (getD_mem (by omega))
      have iq : bin ixD (var 3) (var 12) (E81 ns n j bs (some (.int kd)) (some (.int (k : Int))) (some (.lst (hands 0 qs))) (some (.tup (qs.map fr))) (some (.lst ((amts n qs).map fr))) (some (.tup ((byN n (amts n qs)).map fr))) (some (.int (i : Int))) (some (fr f)) (some (.tup ((sums f qs (byN n (amts n qs))).map fr))) (some (.tup ((sums (((1 : Int) : Rat)) qs (byN n (amts n qs))).map fr))) none) (hp p2 r) = .ok (fr (qs.getD i 0)) (hp p2 r) := (bin2 (d := .ref (j + 1)) (e := .int (i : Int)) rfl rfl).trans (ix_asS (cc p2) (by omega))
      have im : bin ixD (var 11) (var 12) (E81 ns n j bs (some (.int kd)) (some (.int (k : Int))) (some (.lst (hands 0 qs))) (some (.tup (qs.map fr))) (some (.lst ((amts n qs).map fr))) (some (.tup ((byN n (amts n qs)).map fr))) (some (.int (i : Int))) (some (fr f)) (some (.tup ((sums f qs (byN n (amts n qs))).map fr))) (some (.tup ((sums (((1 : Int) : Rat)) qs (byN n (amts n qs))).map fr))) none) (hp p2 r) = .ok (fr ((byN n (amts n qs)).getD i 0)) (hp p2 r) := (bin2 (d := .tup ((byN n (amts n qs)).map fr)) (e := .int (i : Int)) rfl rfl).trans (ix_tupN _ (by omega))
      refine (seq1 (h1 := hp p2 r) (pass (h' := hp p2 r) (t := fr (f * qs.getD i 0 + (byN n (amts n qs)).getD i 0)) ?_ ?_ (ne_self (nice_fr _) _))).trans (pass (t := fr (qs.getD i 0 + (byN n (amts n qs)).getD i 0)) ?_ ?_ (ne_self (nice_fr _) _))
      · rw [← sums_getD (f := f) (by omega) (by omega)]
        exact (bin2 (d := .tup ((sums f qs (byN n (amts n qs))).map fr)) (e := .int (i : Int)) rfl rfl).trans (ix_tupN _ (by omega))
      · exact (cal2 (d := fr (f * qs.getD i 0)) (h1 := hp p2 r) ((cal2 (d := fr f) rfl iq).trans (mul_eq (by omega : 251 ≤ 4000) zf zq _)) im).trans (sum_eq (by omega : 251 + 251 ≤ 4000) (zf.mul zq (by omega)) (zm.mono (by omega)) _)
      · rw [← one_mul' (qs.getD i 0), ← sums_getD (f := (((1 : Int) : Rat))) (by omega) (by omega)]
        exact (bin2 (d := .tup ((sums (((1 : Int) : Rat)) qs (byN n (amts n qs))).map fr)) (e := .int (i : Int)) rfl rfl).trans (ix_tupN _ (by omega))
      · exact (cal2 iq im).trans (sum_eq (by omega : 251 ≤ 4000) zq zm _))
    refine ⟨y, ?_⟩
    show (wkR1 (dsp bLen (acons (var 4) anil)) (E81 ns n j bs (some (.int kd)) (some (.int (k : Int))) (some (.lst (hands 0 qs))) (some (.tup (qs.map fr))) (some (.lst ((amts n qs).map fr))) (some (.tup ((byN n (amts n qs)).map fr))) x (some (fr f)) (some (.tup ((sums f qs (byN n (amts n qs))).map fr))) (some (.tup ((sums (((1 : Int) : Rat)) qs (byN n (amts n qs))).map fr))) none) (hp p2 r)).bindS _ _ = _
    rw [hw, bindS_ok]
    exact e
  obtain ⟨y, s24⟩ := s24
  obtain ⟨p3, ed⟩ := doors_eq (m := 251) (by omega) (by omega) n1 n2 hl hz p2 r
  have s25 : q81_25 (E81 ns n j bs (some (.int kd)) (some (.int (k : Int))) (some (.lst (hands 0 qs))) (some (.tup (qs.map fr))) (some (.lst ((amts n qs).map fr))) (some (.tup ((byN n (amts n qs)).map fr))) y (some (fr f)) (some (.tup ((sums f qs (byN n (amts n qs))).map fr))) (some (.tup ((sums (((1 : Int) : Rat)) qs (byN n (amts n qs))).map fr))) none) (hp p2 r) = .ret (.bl true) (hp p3 r) := ret1 ((cal3 (d := .ref 0) (e := .int (n : Int)) (x := .lst (hands 0 qs)) rfl rfl ((cal1 (d := .ref (j + 1)) rfl).trans (hd p2))).trans ed)
  exact ⟨p3, (seq1 s11).trans ((seq1 s12).trans ((seq1 s13).trans ((seq1 s14).trans ((seq1 s15).trans ((seq1 s16).trans ((seq1 s17).trans ((seq1 s18).trans ((seq1 s19).trans ((seq1 s20).trans ((seq1 s21).trans ((seq1 s22).trans ((seq1 s23).trans ((seq1 s24).trans s25)))))))))))))⟩
theorem plain81 (ns : List Int) (hl : ns.length ≤ 63) (hz : ∀ z ∈ ns, Builtin.Int.intBits z ≤ 1048576) : ∃ h', Flaw_k81 [.fix ns] [] = .ok (.bl true) h' := by
  obtain ⟨n, j, bs, kd, k, p, r, qs, n1, n2, gb, lq, zq, c, e⟩ := draw81 ns hl hz
  obtain ⟨p', e2⟩ := rest81 ns n1 n2 gb kd k p lq zq c
  refine ⟨[], f_drop (n := 17) (fb := mlaw_k81) (s := hp p' r) ?_ rfl⟩
  rw [q81_all]
  exact (e _).trans e2
end Sh
theorem PySem.Challenge.cw_copiedby_k81_prizes_by_number_and_counts_holds : PySem.Challenge.rw_copiedby_k81_prizes_by_number_and_counts.Holds :=
  K81.head Sh.plain81
