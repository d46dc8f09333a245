import PyProof.Rows.All
import Wide.All
import OpenK.AllK
import Wide.FinOn
import HandS.ForMost
import HandS.Exc
import HandS.WordsExc
import HandS.Wide
import HandS.Walk
import HandS.Star
import HandS.Flow
import PyProof.ReprRoads
import HandS.Property
import KE.GoesEnum
import KE.GoesMore
import HandS.IsInst
import HandS.Dict
import HandS.SetKeys
import HandS.TupSets
import HandS.DictComp
import HandS.More
import HandS.Iter
import HandS.TupAny
import HandS.Deep
import HandS.Sort
import HandS.Style
import PyProof.CallFns
import HandS.ExcInit
import HandS.Nested
import KE.KExcSuper
import KE.KSuper
import HandS.ExcField
import HandS.ExcIs
import KE.KExcIs
import PyProof.StrBlock2
import HandS.Small
import HandS.Flt
import KE.KDictCopyH
import HandS.HotCalls
import PySem.Challenge.RW_everyspan_k20_errors_of_strictness
set_option Elab.async false
set_option maxRecDepth 100000
set_option linter.all false
/-! E0: data, the store, how they stand in the heap. -/
namespace EV
open PySem PySem.Spec PyProof.Rows L2

/-- a value as data: a cell stands for what may change, obj for a thing told by a tag -/
inductive D where
  | non | bl (b : Bool) | int (i : Int) | str (x : Str)
  | tup (xs : List D) | lst (xs : List D) | scr (ns : List Int)
  | cell (n : Nat) | obj (t : Nat) (d : D) | err (c : Nat) (d : D)
inductive Cell where
  | lst (xs : List D)
  | dK (kvs : List (Key × D))
  | dT (kvs : List (List Key × D))
  | ins (c : Nat) (fs : List (Nat × D))
abbrev Sto := List (Option Cell)

/-- the ghost world: what is frozen, what is told by tags, where the cells stand -/
structure Wd where
  H : Hp
  B : Addr → Option (Nat × D)
  as : List Addr
  E : Addr → Option (Nat × D)
structure Wd.le (W W' : Wd) : Prop where
  h : Same W.H W'.H
  b : ∀ a x, W.B a = some x → W'.B a = some x
  a : W.as <+: W'.as
  e : ∀ a x, W.E a = some x → W'.E a = some x
theorem Wd.le.refl (W : Wd) : W.le W := ⟨Same.refl _, fun _ _ h => h, List.prefix_refl _, fun _ _ h => h⟩
theorem Wd.le.trans {W W' W'' : Wd} (p : W.le W') (q : W'.le W'') : W.le W'' :=
  ⟨p.h.trans q.h, fun a x h => q.b a x (p.b a x h), p.a.trans q.a, fun a x h => q.e a x (p.e a x h)⟩
theorem Wd.le.at {W W' : Wd} (p : W.le W') {n : Nat} {a : Addr} (h : W.as[n]? = some a) : W'.as[n]? = some a := by
  obtain ⟨l, e⟩ := p.a
  have hn : n < W.as.length := (List.getElem?_eq_some_iff.mp h).1
  rw [← e, List.getElem?_append_left hn]
  exact h

mutual
inductive Rep (K : PySem.W.Frag) (W : Wd) : D → V → Prop
  | non : Rep K W .non .non
  | bl (b : Bool) : Rep K W (.bl b) (.bl b)
  | int (i : Int) : Rep K W (.int i) (.int i)
  | str (x : Str) : Rep K W (.str x) (.str x)
  | tup {a : Addr} {vs : List V} {ds : List D} (h : W.H a = some (.tup vs)) (r : Reps K W ds vs) : Rep K W (.tup ds) (.ref a)
  | lst {a : Addr} {vs : List V} {ds : List D} (h : W.H a = some (.lst vs)) (r : Reps K W ds vs) : Rep K W (.lst ds) (.ref a)
  | scr {a : Addr} {ns : List Int} (h : SqL K W.H a (ns.map V.int)) : Rep K W (.scr ns) (.ref a)
  | cell {a : Addr} {n : Nat} (h : W.as[n]? = some a) : Rep K W (.cell n) (.ref a)
  | obj {a : Addr} {t : Nat} {d : D} (h : W.B a = some (t, d)) : Rep K W (.obj t d) (.ref a)
  | err {a : Addr} {c : Nat} {d : D} (h : W.E a = some (c, d)) : Rep K W (.err c d) (.ref a)
inductive Reps (K : PySem.W.Frag) (W : Wd) : List D → List V → Prop
  | nil : Reps K W [] []
  | cons {d : D} {v : V} {ds : List D} {vs : List V} (h : Rep K W d v) (r : Reps K W ds vs) : Reps K W (d :: ds) (v :: vs)
end

mutual
theorem Rep.mono {K : PySem.W.Frag} {W W' : Wd} (p : W.le W') : ∀ {d : D} {v : V}, Rep K W d v → Rep K W' d v
  | _, _, .non => .non
  | _, _, .bl b => .bl b
  | _, _, .int i => .int i
  | _, _, .str x => .str x
  | _, _, .tup h r => .tup (p.h _ _ h) (Reps.mono p r)
  | _, _, .lst h r => .lst (p.h _ _ h) (Reps.mono p r)
  | _, _, .scr h => .scr (p.h.seq h)
  | _, _, .cell h => .cell (p.at h)
  | _, _, .obj h => .obj (p.b _ _ h)
  | _, _, .err h => .err (p.e _ _ h)
theorem Reps.mono {K : PySem.W.Frag} {W W' : Wd} (p : W.le W') : ∀ {ds : List D} {vs : List V}, Reps K W ds vs → Reps K W' ds vs
  | _, _, .nil => .nil
  | _, _, .cons h r => .cons (Rep.mono p h) (Reps.mono p r)
end
section
variable {K : PySem.W.Frag} {W : Wd}
theorem Reps.length : ∀ {ds : List D} {vs : List V}, Reps K W ds vs → ds.length = vs.length
  | _, _, .nil => rfl
  | _, _, .cons _ r => by rw [List.length_cons, List.length_cons, Reps.length r]
theorem Reps.get : ∀ {ds : List D} {vs : List V} {i : Nat} {d : D}, Reps K W ds vs → ds[i]? = some d → ∃ v, vs[i]? = some v ∧ Rep K W d v
  | _, _, _, _, .nil, e => by simp at e
  | _, _, 0, _, .cons h _, e => by
    simp at e
    subst e
    exact ⟨_, rfl, h⟩
  | _, _, i + 1, d, .cons _ r, e => by
    obtain ⟨v, h1, h2⟩ := Reps.get (i := i) (d := d) r (by simpa using e)
    exact ⟨v, by simpa using h1, h2⟩
theorem Reps.get' : ∀ {ds : List D} {vs : List V} {i : Nat} {v : V}, Reps K W ds vs → vs[i]? = some v → ∃ d, ds[i]? = some d ∧ Rep K W d v
  | _, _, _, _, .nil, e => by simp at e
  | _, _, 0, _, .cons h _, e => by
    simp at e
    subst e
    exact ⟨_, rfl, h⟩
  | _, _, i + 1, v, .cons _ r, e => by
    obtain ⟨d, h1, h2⟩ := Reps.get' (i := i) (v := v) r (by simpa using e)
    exact ⟨d, by simpa using h1, h2⟩
theorem Reps.append : ∀ {ds es : List D} {vs us : List V}, Reps K W ds vs → Reps K W es us → Reps K W (ds ++ es) (vs ++ us)
  | _, _, _, _, .nil, s => s
  | _, _, _, _, .cons h r, s => .cons h (Reps.append r s)
theorem Reps.take : ∀ {ds : List D} {vs : List V} (n : Nat), Reps K W ds vs → Reps K W (ds.take n) (vs.take n)
  | _, _, 0, _ => .nil
  | _, _, _ + 1, .nil => .nil
  | _, _, n + 1, .cons h r => .cons h (Reps.take n r)
theorem Reps.drop : ∀ {ds : List D} {vs : List V} (n : Nat), Reps K W ds vs → Reps K W (ds.drop n) (vs.drop n)
  | _, _, 0, r => r
  | _, _, _ + 1, .nil => .nil
  | _, _, n + 1, .cons _ r => Reps.drop n r
theorem Reps.set {d : D} {v : V} (h : Rep K W d v) : ∀ {ds : List D} {vs : List V} (i : Nat), Reps K W ds vs → Reps K W (ds.set i d) (vs.set i v)
  | _, _, _, .nil => .nil
  | _, _, 0, .cons _ r => .cons h r
  | _, _, i + 1, .cons q r => .cons q (Reps.set h i r)
theorem Reps.reverse {ds : List D} {vs : List V} (r : Reps K W ds vs) : Reps K W ds.reverse vs.reverse := by
  induction ds generalizing vs with
  | nil => cases r; exact .nil
  | cons d ds ih =>
    cases r with
    | cons h r =>
      rw [List.reverse_cons, List.reverse_cons]
      exact (ih r).append (.cons h .nil)
theorem Reps.ints {ns : List Int} : Reps K W (ns.map D.int) (ns.map V.int) := by
  induction ns with
  | nil => exact .nil
  | cons n ns ih => exact .cons (.int n) ih
theorem Reps.of_ints : ∀ {ns : List Int} {vs : List V}, Reps K W (ns.map D.int) vs → vs = ns.map V.int
  | [], _, r => by cases r; rfl
  | n :: ns, _, r => by
    cases r with
    | cons h r =>
      cases h
      rw [Reps.of_ints r]
      rfl
end

/-- what the classes mean: their addresses, what stands behind a tag -/
structure Sig where
  cls : Nat → Addr
  fname : Nat → Str
  nf : Nat
  inj : ∀ i j, i < nf → j < nf → fname i = fname j → i = j
  inv : Nat → D → Addr → HO → Wd → Prop
  mono : ∀ t d a o W W', Wd.le W W' → inv t d a o W → inv t d a o W'
  cut : ∀ t d a o (W W' : Wd), W.H = W'.H → W.B = W'.B → inv t d a o W → inv t d a o W'
  er : Addr → Nat → D → Wd → Prop
  ermono : ∀ a c d W W', Wd.le W W' → er a c d W → er a c d W'
  ercut : ∀ a c d (W W' : Wd), W.H = W'.H → W.B = W'.B → W.E = W'.E → er a c d W → er a c d W'

abbrev RepF {κ : Type} (K : PySem.W.Frag) (W : Wd) : List (κ × D) → List (κ × V) → Prop := Paired fun p q => p.1 = q.1 ∧ Rep K W p.2 q.2
theorem RepF.mono {κ : Type} {K : PySem.W.Frag} {W W' : Wd} (p : W.le W') {fs : List (κ × D)} {fv : List (κ × V)} (r : RepF K W fs fv) : RepF K W' fs fv :=
  Paired.mapP r fun _ _ h => ⟨h.1, h.2.mono p⟩
/-- attributes: their names by number -/
abbrev RepN (G : Sig) (K : PySem.W.Frag) (W : Wd) : List (Nat × D) → List (Str × V) → Prop := Paired fun p q => p.1 < G.nf ∧ G.fname p.1 = q.1 ∧ Rep K W p.2 q.2
theorem RepN.mono {G : Sig} {K : PySem.W.Frag} {W W' : Wd} (p : W.le W') {fs : List (Nat × D)} {fv : List (Str × V)} (r : RepN G K W fs fv) : RepN G K W' fs fv :=
  Paired.mapP r fun _ _ h => ⟨h.1, h.2.1, h.2.2.mono p⟩
def CellOk (G : Sig) (K : PySem.W.Frag) (W : Wd) (H : Hp) (a : Addr) : Cell → Prop
  | .lst ds => ∃ vs, H a = some (.lst vs) ∧ Reps K W ds vs
  | .dK kvs => ∃ vs, H a = some (.dK vs) ∧ RepF K W kvs vs
  | .dT kvs => ∃ vs, H a = some (.dT vs) ∧ RepF K W kvs vs
  | .ins c fs => ∃ dx fv, H a = some (.ins (G.cls c) dx fv) ∧ RepN G K W fs fv
theorem CellOk.mono {G : Sig} {K : PySem.W.Frag} {W W' : Wd} {H H' : Hp} {a : Addr} (p : W.le W') (h : H' a = H a) : ∀ {c : Cell}, CellOk G K W H a c → CellOk G K W' H' a c
  | .lst _, ⟨vs, e, r⟩ => ⟨vs, h.trans e, r.mono p⟩
  | .dK _, ⟨vs, e, r⟩ => ⟨vs, h.trans e, RepF.mono p r⟩
  | .dT _, ⟨vs, e, r⟩ => ⟨vs, h.trans e, RepF.mono p r⟩
  | .ins _ _, ⟨dx, fv, e, r⟩ => ⟨dx, fv, h.trans e, RepN.mono p r⟩
theorem CellOk.there {G : Sig} {K : PySem.W.Frag} {W : Wd} {H : Hp} {a : Addr} : ∀ {c : Cell}, CellOk G K W H a c → H a ≠ none
  | .lst _, ⟨_, e, _⟩ => by rw [e]; exact fun z => nomatch z
  | .dK _, ⟨_, e, _⟩ => by rw [e]; exact fun z => nomatch z
  | .dT _, ⟨_, e, _⟩ => by rw [e]; exact fun z => nomatch z
  | .ins _ _, ⟨_, _, e, _⟩ => by rw [e]; exact fun z => nomatch z

/-- the store stands in the heap -/
structure RS (G : Sig) (K : PySem.W.Frag) (W : Wd) (S : Sto) (H : Hp) : Prop where
  fr : Same W.H H
  ob : ∀ a t d, W.B a = some (t, d) → W.H a = none ∧ ∃ o, H a = some o ∧ G.inv t d a o W
  len : W.as.length = S.length
  nd : W.as.Nodup
  ful : ∀ a, a ∈ W.as → H a ≠ none
  nob : ∀ a, a ∈ W.as → W.B a = none
  cl : ∀ (n : Nat) (c : Cell), S[n]? = some (some c) → ∃ a, W.as[n]? = some a ∧ W.H a = none ∧ CellOk G K W H a c
  er : ∀ a c d, W.E a = some (c, d) → G.er a c d W

/-- tracked, but nothing of the world's -/
structure Lone (W : Wd) (x : Addr) : Prop where
  h : W.H x = none
  b : W.B x = none
  a : x ∉ W.as
/-- from one moment to a later one: the world grows, what is none of its own stays -/
structure Stp (W : Wd) (H : Hp) (W' : Wd) (H' : Hp) : Prop where
  le : W.le W'
  lone : ∀ b o, H b = some o → Lone W b → H' b = some o ∧ Lone W' b
theorem Stp.refl (W : Wd) (H : Hp) : Stp W H W H := ⟨.refl W, fun _ _ h l => ⟨h, l⟩⟩
theorem Stp.trans {W W1 W2 : Wd} {H H1 H2 : Hp} (p : Stp W H W1 H1) (q : Stp W1 H1 W2 H2) : Stp W H W2 H2 :=
  ⟨p.le.trans q.le, fun b o h l => let ⟨h1, l1⟩ := p.lone b o h l; q.lone b o h1 l1⟩
section
variable {G : Sig} {K : PySem.W.Frag} {W : Wd} {S : Sto} {H : Hp} {p a : Addr} {n : Nat}
theorem RS.nw (R : RS G K W S H) (hp : H p = none) : Lone W p := by
  refine ⟨R.fr.free hp, ?_, fun h => R.ful p h hp⟩
  cases q : W.B p with
  | none => rfl
  | some x =>
    obtain ⟨t, d⟩ := x
    obtain ⟨_, o', h2, _⟩ := R.ob p t d q
    rw [hp] at h2; cases h2
/-- a new thing that is tracked but not told of -/
theorem RS.new (R : RS G K W S H) (hp : H p = none) (o : HO) : Stp W H W (upd H p o) ∧ RS G K W S (upd H p o) ∧ Lone W p := by
  have L := R.nw hp
  have np : ∀ b, b ∈ W.as → b ≠ p := fun b hb z => L.a (z ▸ hb)
  refine ⟨⟨.refl W, fun b u e l => ⟨by rw [upd_ne (ne_of_none e hp)]; exact e, l⟩⟩, ⟨fun b u e => ?_, fun b t' d' e => ?_, R.len, R.nd, fun b hb => ?_, R.nob, fun m c e => ?_, R.er⟩, L⟩
  · rw [upd_ne (ne_of_none (R.fr b u e) hp)]; exact R.fr b u e
  · obtain ⟨q1, o₂, q2, q3⟩ := R.ob b t' d' e
    exact ⟨q1, o₂, by rw [upd_ne (ne_of_none q2 hp)]; exact q2, q3⟩
  · rw [upd_ne (np b hb)]; exact R.ful b hb
  · obtain ⟨b, q1, q2, q3⟩ := R.cl m c e
    exact ⟨b, q1, q2, q3.mono (Wd.le.refl _) (upd_ne (np b (List.mem_of_getElem? q1)))⟩
/-- a thing of one's own changes -/
theorem RS.lone (R : RS G K W S H) (L : Lone W p) (o : HO) : RS G K W S (upd H p o) := by
  have np : ∀ b, b ∈ W.as → b ≠ p := fun b hb z => L.a (z ▸ hb)
  refine ⟨fun b u e => ?_, fun b t' d' e => ?_, R.len, R.nd, fun b hb => ?_, R.nob, fun m c e => ?_, R.er⟩
  · rw [upd_ne (fun z => by rw [z, L.h] at e; cases e)]; exact R.fr b u e
  · obtain ⟨q1, o₂, q2, q3⟩ := R.ob b t' d' e
    exact ⟨q1, o₂, by rw [upd_ne (fun z => by rw [z, L.b] at e; cases e)]; exact q2, q3⟩
  · rw [upd_ne (np b hb)]; exact R.ful b hb
  · obtain ⟨b, q1, q2, q3⟩ := R.cl m c e
    exact ⟨b, q1, q2, q3.mono (Wd.le.refl _) (upd_ne (np b (List.mem_of_getElem? q1)))⟩
/-- a thing of one's own is frozen -/
theorem RS.frz {W0 : Wd} {H0 : Hp} (T : Stp W0 H0 W H) (R : RS G K W S H) (h0 : H0 p = none) (L : Lone W p) {o : HO} (hp : H p = some o) :
    ∃ W', W.le W' ∧ Stp W0 H0 W' H ∧ RS G K W' S H ∧ W'.H p = some o := by
  have le : W.le { W with H := upd W.H p o } := ⟨fun b u e => by
    show upd W.H p o b = some u
    rw [upd_ne (ne_of_none e L.h)]; exact e, fun _ _ h => h, List.prefix_refl _, fun _ _ h => h⟩
  refine ⟨_, le, ⟨T.le.trans le, fun b u e l => ?_⟩, ⟨fun b u e => ?_, fun b t d e => ?_, R.len, R.nd, R.ful, R.nob, fun m c e => ?_, fun b c d e => G.ermono _ _ _ _ _ le (R.er b c d e)⟩, upd_same⟩
  · obtain ⟨h1, l1⟩ := T.lone b u e l
    refine ⟨h1, ?_, l1.b, l1.a⟩
    show upd W.H p o b = none
    rw [upd_ne (ne_of_none e h0)]; exact l1.h
  · have e' : upd W.H p o b = some u := e
    by_cases hb : b = p
    · subst hb
      rw [upd_same] at e'; cases e'; exact hp
    · rw [upd_ne hb] at e'
      exact R.fr b u e'
  · obtain ⟨h1, o', h2, h3⟩ := R.ob b t d e
    refine ⟨?_, o', h2, G.mono _ _ _ _ _ _ le h3⟩
    show upd W.H p o b = none
    rw [upd_ne (fun z => by rw [z, L.b] at e; cases e)]; exact h1
  · obtain ⟨b, h1, h2, h3⟩ := R.cl m c e
    refine ⟨b, h1, ?_, h3.mono le rfl⟩
    show upd W.H p o b = none
    rw [upd_ne (fun z => L.a (by rw [← z]; exact List.mem_of_getElem? h1))]; exact h2
/-- .. becomes a cell -/
theorem RS.cell {W0 : Wd} {H0 : Hp} (T : Stp W0 H0 W H) (R : RS G K W S H) (h0 : H0 p = none) (L : Lone W p) {c : Cell} (hc : CellOk G K W H p c) :
    ∃ W', W.le W' ∧ Stp W0 H0 W' H ∧ RS G K W' (S ++ [some c]) H ∧ W'.as[S.length]? = some p := by
  have le : W.le { W with as := W.as ++ [p] } := ⟨Same.refl _, fun _ _ h => h, List.prefix_append _ _, fun _ _ h => h⟩
  have pl : (W.as ++ [p])[S.length]? = some p := by rw [← R.len, List.getElem?_append_right (Nat.le_refl _)]; simp
  have np : ∀ b, b ∈ W.as → b ≠ p := fun b hb z => L.a (z ▸ hb)
  have me : ∀ b, b ∈ W.as ++ [p] → b ∈ W.as ∨ b = p := fun b hb => by
    rcases List.mem_append.mp hb with z | z
    · exact .inl z
    · exact .inr (by simpa using z)
  refine ⟨_, le, ⟨T.le.trans le, fun b u e l => ?_⟩, ⟨R.fr, fun b t d e => ?_, ?_, ?_, fun b hb => ?_, fun b hb => ?_, fun m c' e => ?_, fun b c d e => G.ermono _ _ _ _ _ le (R.er b c d e)⟩, pl⟩
  · obtain ⟨h1, l1⟩ := T.lone b u e l
    refine ⟨h1, l1.h, l1.b, fun hb => ?_⟩
    rcases me b hb with z | z
    · exact l1.a z
    · rw [z, h0] at e; cases e
  · obtain ⟨h1, o', h2, h3⟩ := R.ob b t d e
    exact ⟨h1, o', h2, G.mono _ _ _ _ _ _ le h3⟩
  · show (W.as ++ [p]).length = (S ++ [some c]).length
    rw [List.length_append, List.length_append, R.len]; rfl
  · show (W.as ++ [p]).Nodup
    rw [List.nodup_append]
    exact ⟨R.nd, by simp, fun b hb b' hb' => by
      have z : b' = p := by simpa using hb'
      rw [z]; exact np b hb⟩
  · rcases me b hb with z | z
    · exact R.ful b z
    · rw [z]; exact hc.there
  · rcases me b hb with z | z
    · exact R.nob b z
    · rw [z]; exact L.b
  · by_cases hm : m < S.length
    · rw [List.getElem?_append_left hm] at e
      obtain ⟨b, h1, h2, h3⟩ := R.cl m c' e
      exact ⟨b, le.at h1, h2, h3.mono le rfl⟩
    · have hm' : m = S.length := by
        have := (List.getElem?_eq_some_iff.mp e).1
        rw [List.length_append] at this
        simp at this; omega
      subst hm'
      rw [List.getElem?_append_right (Nat.le_refl _)] at e
      simp at e
      subst e
      exact ⟨p, pl, L.h, hc.mono le rfl⟩
/-- .. is told by a tag -/
theorem RS.newtag {W0 : Wd} {H0 : Hp} (T : Stp W0 H0 W H) (R : RS G K W S H) (h0 : H0 p = none) (L : Lone W p) {t : Nat} {d : D} {o : HO} (hp : H p = some o) (hi : G.inv t d p o W) :
    ∃ W', W.le W' ∧ Stp W0 H0 W' H ∧ RS G K W' S H ∧ W'.B p = some (t, d) := by
  have np : ∀ b, b ∈ W.as → b ≠ p := fun b hb z => L.a (z ▸ hb)
  have le : W.le { W with B := fun b => if b = p then some (t, d) else W.B b } := ⟨Same.refl _, fun b x h => by
    show (if b = p then some (t, d) else W.B b) = some x
    rw [if_neg (fun z => by rw [z, L.b] at h; cases h)]; exact h, List.prefix_refl _, fun _ _ h => h⟩
  refine ⟨_, le, ⟨T.le.trans le, fun b u e l => ?_⟩, ⟨R.fr, fun b t' d' e => ?_, R.len, R.nd, R.ful, fun b hb => ?_, fun m c e => ?_, fun b c d e => G.ermono _ _ _ _ _ le (R.er b c d e)⟩, if_pos rfl⟩
  · obtain ⟨h1, l1⟩ := T.lone b u e l
    refine ⟨h1, l1.h, ?_, l1.a⟩
    show (if b = p then some (t, d) else W.B b) = none
    rw [if_neg (ne_of_none e h0)]; exact l1.b
  · have e' : (if b = p then some (t, d) else W.B b) = some (t', d') := e
    by_cases z : b = p
    · subst z
      rw [if_pos rfl] at e'; cases e'
      exact ⟨L.h, o, hp, G.mono _ _ _ _ _ _ le hi⟩
    · rw [if_neg z] at e'
      obtain ⟨q1, o₂, q2, q3⟩ := R.ob b t' d' e'
      exact ⟨q1, o₂, q2, G.mono _ _ _ _ _ _ le q3⟩
  · show (if b = p then some (t, d) else W.B b) = none
    rw [if_neg (np b hb)]; exact R.nob b hb
  · obtain ⟨b, q1, q2, q3⟩ := R.cl m c e
    exact ⟨b, q1, q2, q3.mono le rfl⟩
/-- a cell changes -/
theorem RS.put (R : RS G K W S H) {c c' : Cell} (hn : S[n]? = some (some c)) (ha : W.as[n]? = some a) {o : HO} (hc : CellOk G K W (upd H a o) a c') :
    Stp W H W (upd H a o) ∧ RS G K W (S.set n (some c')) (upd H a o) := by
  obtain ⟨a', h1, h2, h3⟩ := R.cl n c hn
  have ea : a' = a := by rw [ha] at h1; exact (Option.some.inj h1).symm
  subst ea
  have am := List.mem_of_getElem? ha
  refine ⟨⟨.refl W, fun b u e l => ⟨by rw [upd_ne (fun z => l.a (by rw [z]; exact am))]; exact e, l⟩⟩, fun b u e => ?_, fun b t d e => ?_, ?_, R.nd, fun b hb => ?_, R.nob, fun m c₂ e => ?_, R.er⟩
  · rw [upd_ne (ne_of_none e h2)]; exact R.fr b u e
  · obtain ⟨q1, o', q2, q3⟩ := R.ob b t d e
    have nb : b ≠ a' := fun z => by
      have := R.nob a' am
      rw [← z, e] at this; cases this
    exact ⟨q1, o', by rw [upd_ne nb]; exact q2, q3⟩
  · rw [List.length_set]; exact R.len
  · by_cases z : b = a'
    · rw [z, upd_same]; exact fun q => nomatch q
    · rw [upd_ne z]; exact R.ful b hb
  · by_cases hm : m = n
    · subst hm
      have hl : m < S.length := (List.getElem?_eq_some_iff.mp hn).1
      rw [List.getElem?_set_self hl] at e
      cases e
      exact ⟨a', ha, h2, hc⟩
    · rw [List.getElem?_set_ne (Ne.symm hm)] at e
      obtain ⟨b, q1, q2, q3⟩ := R.cl m c₂ e
      have nb : b ≠ a' := fun z => by
        subst z
        exact hm (nd_ix R.nd q1 ha)
      exact ⟨b, q1, q2, q3.mono (Wd.le.refl _) (upd_ne nb)⟩
/-- a cell that holds a list is frozen: it is a cell no longer -/
theorem RS.freeze (R : RS G K W S H) {ds : List D} (hn : S[n]? = some (some (.lst ds))) (ha : W.as[n]? = some a) :
    ∃ W', Stp W H W' H ∧ RS G K W' (S.set n none) H ∧ Rep K W' (.lst ds) (.ref a) := by
  obtain ⟨a', h1, h2, vs, h3, h4⟩ := R.cl n _ hn
  have ea : a' = a := by rw [ha] at h1; exact (Option.some.inj h1).symm
  subst ea
  have am := List.mem_of_getElem? ha
  have le : W.le { W with H := upd W.H a' (.lst vs) } := ⟨fun b u e => by
    show upd W.H a' _ b = some u
    rw [upd_ne (ne_of_none e h2)]; exact e, fun _ _ h => h, List.prefix_refl _, fun _ _ h => h⟩
  refine ⟨_, ⟨le, fun b u e l => ⟨e, ?_, l.b, l.a⟩⟩, ⟨fun b u e => ?_, fun b t d e => ?_, ?_, R.nd, R.ful, R.nob, fun m c₂ e => ?_, fun b c d e => G.ermono _ _ _ _ _ le (R.er b c d e)⟩, .lst (vs := vs) ?_ (h4.mono le)⟩
  · show upd W.H a' _ b = none
    rw [upd_ne (fun z => l.a (by rw [z]; exact am))]; exact l.h
  · by_cases z : b = a'
    · subst z
      have e' : upd W.H b _ b = some u := e
      rw [upd_same] at e'
      cases e'; exact h3
    · have e' : upd W.H a' _ b = some u := e
      rw [upd_ne z] at e'
      exact R.fr b u e'
  · obtain ⟨q1, o', q2, q3⟩ := R.ob b t d e
    have nb : b ≠ a' := fun z => by
      have := R.nob a' am
      rw [← z, e] at this; cases this
    refine ⟨?_, o', q2, G.mono _ _ _ _ _ _ le q3⟩
    show upd W.H a' _ b = none
    rw [upd_ne nb]; exact q1
  · rw [List.length_set]; exact R.len
  · by_cases hm : m = n
    · subst hm
      have hl : m < S.length := (List.getElem?_eq_some_iff.mp hn).1
      rw [List.getElem?_set_self hl] at e
      cases e
    · rw [List.getElem?_set_ne (Ne.symm hm)] at e
      obtain ⟨b, q1, q2, q3⟩ := R.cl m c₂ e
      have nb : b ≠ a' := fun z => by
        subst z
        exact hm (nd_ix R.nd q1 ha)
      refine ⟨b, q1, ?_, q3.mono le rfl⟩
      show upd W.H a' _ b = none
      rw [upd_ne nb]; exact q2
  · show upd W.H a' _ a' = _
    rw [upd_same]
/-- what stands behind a tag changes within its meaning -/
theorem RS.tag (R : RS G K W S H) {t : Nat} {d : D} {o : HO} (hb : W.B a = some (t, d)) (hi : G.inv t d a o W) : Stp W H W (upd H a o) ∧ RS G K W S (upd H a o) := by
  obtain ⟨h1, o', h2, h3⟩ := R.ob a t d hb
  have na : ∀ b, b ∈ W.as → b ≠ a := fun b hb' z => by
    have := R.nob b hb'
    rw [z, hb] at this; cases this
  refine ⟨⟨.refl W, fun b u e l => ⟨by rw [upd_ne (fun z => by have := l.b; rw [z, hb] at this; cases this)]; exact e, l⟩⟩, fun b u e => ?_, fun b t' d' e => ?_, R.len, R.nd, fun b hb => ?_, R.nob, fun m c e => ?_, R.er⟩
  · rw [upd_ne (ne_of_none e h1)]; exact R.fr b u e
  · by_cases z : b = a
    · subst z
      rw [hb] at e; cases e
      exact ⟨h1, o, upd_same, hi⟩
    · obtain ⟨q1, o₂, q2, q3⟩ := R.ob b t' d' e
      exact ⟨q1, o₂, by rw [upd_ne z]; exact q2, q3⟩
  · rw [upd_ne (na b hb)]; exact R.ful b hb
  · obtain ⟨b, q1, q2, q3⟩ := R.cl m c e
    exact ⟨b, q1, q2, q3.mono (Wd.le.refl _) (upd_ne (na b (List.mem_of_getElem? q1)))⟩
end

mutual
/-- all cells that are named lie below n -/
def D.low (n : Nat) : D → Bool
  | .tup xs => D.lowAll n xs
  | .lst xs => D.lowAll n xs
  | .cell m => decide (m < n)
  | .non => true
  | .bl _ => true
  | .int _ => true
  | .str _ => true
  | .scr _ => true
  | .obj _ _ => true
  | .err _ _ => false
def D.lowAll (n : Nat) : List D → Bool
  | [] => true
  | x :: xs => D.low n x && D.lowAll n xs
end
theorem D.lowAll_iff {n : Nat} : ∀ {xs : List D}, D.lowAll n xs = true ↔ ∀ x, x ∈ xs → D.low n x = true
  | [] => by simp [D.lowAll]
  | x :: xs => by
    rw [D.lowAll, Bool.and_eq_true, D.lowAll_iff (xs := xs)]
    simp
def Cell.low (n : Nat) : Cell → Bool
  | .lst xs => D.lowAll n xs
  | .dK kvs => kvs.all fun p => D.low n p.2
  | .dT kvs => kvs.all fun p => D.low n p.2
  | .ins _ fs => fs.all fun p => D.low n p.2
def lowS (n : Nat) : Option Cell → Bool
  | none => true
  | some c => c.low n
section
variable {G : Sig} {K : PySem.W.Frag} {W W' : Wd} {S : Sto} {H : Hp} {p a : Addr} {n : Nat}
mutual
theorem Rep.cut (hH : W'.H = W.H) (hB : W'.B = W.B) (ha : W'.as = W.as.take n) : ∀ {d : D} {v : V}, Rep K W d v → D.low n d = true → Rep K W' d v
  | _, _, .non, _ => .non
  | _, _, .bl b, _ => .bl b
  | _, _, .int i, _ => .int i
  | _, _, .str x, _ => .str x
  | _, _, .tup h r, e => .tup (by rw [hH]; exact h) (Reps.cut hH hB ha r e)
  | _, _, .lst h r, e => .lst (by rw [hH]; exact h) (Reps.cut hH hB ha r e)
  | _, _, .scr h, _ => .scr (by rw [hH]; exact h)
  | _, _, .cell h, e => .cell (by rw [ha, List.getElem?_take_of_lt (of_decide_eq_true e)]; exact h)
  | _, _, .obj h, _ => .obj (by rw [hB]; exact h)
  | _, _, .err h, e => absurd e Bool.false_ne_true
theorem Reps.cut (hH : W'.H = W.H) (hB : W'.B = W.B) (ha : W'.as = W.as.take n) : ∀ {ds : List D} {vs : List V}, Reps K W ds vs → D.lowAll n ds = true → Reps K W' ds vs
  | _, _, .nil, _ => .nil
  | _, _, .cons h r, e => by
    rw [D.lowAll, Bool.and_eq_true] at e
    exact .cons (Rep.cut hH hB ha h e.1) (Reps.cut hH hB ha r e.2)
end
theorem RepF.cut {κ : Type} (hH : W'.H = W.H) (hB : W'.B = W.B) (ha : W'.as = W.as.take n) : ∀ {fs : List (κ × D)} {fv : List (κ × V)}, RepF K W fs fv → (fs.all fun p => D.low n p.2) = true → RepF K W' fs fv
  | _, _, .nil, _ => .nil
  | _, _, .cons h r, e => by
    rw [List.all_cons, Bool.and_eq_true] at e
    exact .cons ⟨h.1, h.2.cut hH hB ha e.1⟩ (RepF.cut hH hB ha r e.2)
theorem RepN.cut (hH : W'.H = W.H) (hB : W'.B = W.B) (ha : W'.as = W.as.take n) : ∀ {fs : List (Nat × D)} {fv : List (Str × V)}, RepN G K W fs fv → (fs.all fun p => D.low n p.2) = true → RepN G K W' fs fv
  | _, _, .nil, _ => .nil
  | _, _, .cons h r, e => by
    rw [List.all_cons, Bool.and_eq_true] at e
    exact .cons ⟨h.1, h.2.1, h.2.2.cut hH hB ha e.1⟩ (RepN.cut hH hB ha r e.2)
theorem CellOk.cut (hH : W'.H = W.H) (hB : W'.B = W.B) (ha : W'.as = W.as.take n) : ∀ {c : Cell}, CellOk G K W H a c → c.low n = true → CellOk G K W' H a c
  | .lst _, ⟨vs, e, r⟩, q => ⟨vs, e, r.cut hH hB ha q⟩
  | .dK _, ⟨vs, e, r⟩, q => ⟨vs, e, RepF.cut hH hB ha r q⟩
  | .dT _, ⟨vs, e, r⟩, q => ⟨vs, e, RepF.cut hH hB ha r q⟩
  | .ins _ _, ⟨dx, fv, e, r⟩, q => ⟨dx, fv, e, RepN.cut hH hB ha r q⟩
/-- the cells from n on go -/
theorem RS.trunc {W₀ : Wd} {H₀ : Hp} (R : RS G K W S H) (T : Stp W₀ H₀ W H) (hl : W₀.as.length = n) (hn : n ≤ S.length) (hS : (S.take n).all (lowS n) = true)
    :
    ∃ W', Stp W₀ H₀ W' H ∧ RS G K W' (S.take n) H ∧ (∀ d v, Rep K W d v → D.low n d = true → Rep K W' d v) ∧
      (∀ m a, n ≤ m → W.as[m]? = some a → W.H a = none → Lone W' a) ∧ (∀ fs fv, RepN G K W fs fv → (fs.all fun p => D.low n p.2) = true → RepN G K W' fs fv) ∧ W'.H = W.H := by
  obtain ⟨l, el⟩ := T.le.a
  have et : W.as.take n = W₀.as := by rw [← el, ← hl, List.take_left']; rfl
  refine ⟨{ W with as := W₀.as }, ⟨⟨T.le.h, T.le.b, List.prefix_refl _, T.le.e⟩, fun b u e l => ?_⟩, ⟨R.fr, fun b t d e => ?_, ?_, ?_, fun b hb => ?_, fun b hb => ?_, fun m c e => ?_, fun b c d e => G.ercut _ _ _ W _ rfl rfl rfl (R.er b c d e)⟩, fun d v r e => Rep.cut (W := W) (W' := { W with as := W₀.as }) (n := n) rfl rfl et.symm r e,
    fun m a hm ha h0 => ⟨h0, R.nob a (List.mem_of_getElem? ha), fun z => ?_⟩, fun fs fv r e => RepN.cut (W := W) (W' := { W with as := W₀.as }) (n := n) rfl rfl et.symm r e, rfl⟩
  · obtain ⟨h1, l1⟩ := T.lone b u e l
    exact ⟨h1, l1.h, l1.b, l.a⟩
  · obtain ⟨q1, o, q2, q3⟩ := R.ob b t d e
    exact ⟨q1, o, q2, G.cut _ _ _ _ W _ rfl rfl q3⟩
  · show W₀.as.length = (S.take n).length
    rw [List.length_take, hl]; omega
  · show W₀.as.Nodup
    rw [← et]; exact R.nd.sublist (List.take_sublist _ _)
  · have hb' : b ∈ W₀.as := hb
    rw [← et] at hb'
    exact R.ful b (List.mem_of_mem_take hb')
  · have hb' : b ∈ W₀.as := hb
    rw [← et] at hb'
    exact R.nob b (List.mem_of_mem_take hb')
  · have hm : m < n := by
      have := (List.getElem?_eq_some_iff.mp e).1
      rw [List.length_take] at this; omega
    have e' := e
    rw [List.getElem?_take_of_lt hm] at e'
    obtain ⟨b, q1, q2, q3⟩ := R.cl m c e'
    refine ⟨b, ?_, q2, CellOk.cut (W := W) (W' := { W with as := W₀.as }) (n := n) rfl rfl et.symm q3 ?_⟩
    · show W₀.as[m]? = some b
      rw [← et, List.getElem?_take_of_lt hm]; exact q1
    · have := List.all_eq_true.mp hS (some c) (List.mem_of_getElem? e)
      exact this
  · have z' : a ∈ W₀.as := z
    rw [← et] at z'
    obtain ⟨j, hj⟩ := List.getElem?_of_mem z'
    have hjn : j < n := by
      have := (List.getElem?_eq_some_iff.mp hj).1
      rw [List.length_take] at this; omega
    rw [List.getElem?_take_of_lt hjn] at hj
    have := nd_ix R.nd hj ha
    omega
end
end EV

/-! E1: the judgements: an expression's function of frame and store. -/
namespace EV
open PySem PySem.Spec PyProof.Rows L2

abbrev Er := Nat × D
abbrev Res (α : Type) := Option (Except Er α × Sto)
def bnd {α β : Type} (r : Res α) (k : α → Sto → Res β) : Res β := match r with
  | none => none
  | some (.error e, S) => some (.error e, S)
  | some (.ok a, S) => k a S
@[simp] theorem bnd_none {α β : Type} (k : α → Sto → Res β) : bnd none k = none := rfl
@[simp] theorem bnd_ok {α β : Type} (a : α) (S : Sto) (k : α → Sto → Res β) : bnd (some (.ok a, S)) k = k a S := rfl
@[simp] theorem bnd_er {α β : Type} (e : Er) (S : Sto) (k : α → Sto → Res β) : bnd (some (.error e, S)) k = some (.error e, S) := rfl
abbrev Frm := List (Option D)
abbrev EX := Frm → Sto → Res D
abbrev ET := Frm → Sto → Res Bool
abbrev EA := Frm → Sto → Res (List D)
abbrev Fn := List D → Sto → Res D

def RE (K : PySem.W.Frag) (W : Wd) (ρ : Frm) (σ : L2.St) : Prop := ρ.length = σ.length ∧ ∀ (i : Nat) (d : D), ρ[i]? = some (some d) → ∃ v, σ[i]? = some (some v) ∧ Rep K W d v
theorem RE.mono {K : PySem.W.Frag} {W W' : Wd} {ρ : Frm} {σ : L2.St} (p : W.le W') (r : RE K W ρ σ) : RE K W' ρ σ :=
  ⟨r.1, fun i d h => let ⟨v, h1, h2⟩ := r.2 i d h; ⟨v, h1, h2.mono p⟩⟩
theorem RE.set {K : PySem.W.Frag} {W : Wd} {ρ : Frm} {σ : L2.St} (r : RE K W ρ σ) {d : D} {v : V} (h : Rep K W d v) (i : Nat) : RE K W (ρ.set i (some d)) (σ.set i (some v)) := by
  refine ⟨by rw [List.length_set, List.length_set]; exact r.1, fun j e q => ?_⟩
  by_cases hj : j = i
  · subst hj
    have hl : j < ρ.length := by
      have := (List.getElem?_eq_some_iff.mp q).1
      rw [List.length_set] at this; exact this
    rw [List.getElem?_set_self hl] at q
    cases q
    exact ⟨v, List.getElem?_set_self (by rw [← r.1]; exact hl), h⟩
  · rw [List.getElem?_set_ne (Ne.symm hj)] at q
    obtain ⟨v', h1, h2⟩ := r.2 j e q
    exact ⟨v', by rw [List.getElem?_set_ne (Ne.symm hj)]; exact h1, h2⟩
theorem RE.unset {K : PySem.W.Frag} {W : Wd} {ρ : Frm} {σ : L2.St} (r : RE K W ρ σ) (i : Nat) (o : Option V) : RE K W (ρ.set i none) (σ.set i o) := by
  refine ⟨by rw [List.length_set, List.length_set]; exact r.1, fun j e q => ?_⟩
  by_cases hj : j = i
  · subst hj
    have hl : j < ρ.length := by
      have := (List.getElem?_eq_some_iff.mp q).1
      rw [List.length_set] at this; exact this
    rw [List.getElem?_set_self hl] at q
    cases q
  · rw [List.getElem?_set_ne (Ne.symm hj)] at q
    obtain ⟨v', h1, h2⟩ := r.2 j e q
    exact ⟨v', by rw [List.getElem?_set_ne (Ne.symm hj)]; exact h1, h2⟩

/-- an exception that is told: the class by its number, the value in its own dict -/
def ErIs (G : Sig) (K : PySem.W.Frag) (W : Wd) (H : Hp) (e : Er) (cls : Value) (dx : Option Addr) : Prop :=
  cls = .ref (G.cls e.1) ∧ ∃ a v, dx = some a ∧ W.H a = some (.xd [("value", v)]) ∧ Rep K W e.2 v

section
variable (G : Sig) (K : PySem.W.Frag)
/-- what is wanted behind an expression whose answer is told -/
def PostE (Wx : WX) (σ : L2.St) (Q : VK) (W : Wd) (H : Hp) : Res D → Prop
  | none => False
  | some (.ok d, S) => ∀ v H' W', Stp W H W' H' → RS G K W' S H' → Rep K W' d v → Q v H'
  | some (.error e, S) => ∀ cls dx H' W', Stp W H W' H' → RS G K W' S H' → ErIs G K W' H' e cls dx → Wx cls dx σ H'
def PostT (Wx : WX) (σ : L2.St) (Q : Bool → Hp → Prop) (W : Wd) (H : Hp) : Res Bool → Prop
  | none => False
  | some (.ok b, S) => ∀ H' W', Stp W H W' H' → RS G K W' S H' → Q b H'
  | some (.error e, S) => ∀ cls dx H' W', Stp W H W' H' → RS G K W' S H' → ErIs G K W' H' e cls dx → Wx cls dx σ H'
def PostA (Wx : WX) (σ : L2.St) (Q : List V → Hp → Prop) (W : Wd) (H : Hp) : Res (List D) → Prop
  | none => False
  | some (.ok ds, S) => ∀ vs H' W', Stp W H W' H' → RS G K W' S H' → Reps K W' ds vs → Q vs H'
  | some (.error e, S) => ∀ cls dx H' W', Stp W H W' H' → RS G K W' S H' → ErIs G K W' H' e cls dx → Wx cls dx σ H'
/-- a new list, nobody's yet -/
def PostF (Wx : WX) (σ : L2.St) (Q : VK) (W : Wd) (H : Hp) : Res (List D) → Prop
  | none => False
  | some (.ok ds, S) => ∀ p vs H' W', Stp W H W' H' → RS G K W' S H' → H p = none → Lone W' p → H' p = some (.lst vs) → Reps K W' ds vs → Q (.ref p) H'
  | some (.error e, S) => ∀ cls dx H' W', Stp W H W' H' → RS G K W' S H' → ErIs G K W' H' e cls dx → Wx cls dx σ H'
def tE (Wx : WX) (f : EX) : TE := fun σ H Q => ∃ ρ S W, RE K W ρ σ ∧ RS G K W S H ∧ PostE G K Wx σ Q W H (f ρ S)
def tT (Wx : WX) (f : ET) : TT := fun σ H Q => ∃ ρ S W, RE K W ρ σ ∧ RS G K W S H ∧ PostT G K Wx σ Q W H (f ρ S)
def tA (Wx : WX) (f : EA) : TA := fun σ H Q => ∃ ρ S W, RE K W ρ σ ∧ RS G K W S H ∧ PostA G K Wx σ Q W H (f ρ S)
def tF (Wx : WX) (f : EA) : TE := fun σ H Q => ∃ ρ S W, RE K W ρ σ ∧ RS G K W S H ∧ PostF G K Wx σ Q W H (f ρ S)
end
section
variable (G : Sig) (X : Cx)
def GE (e : Expr) (f : EX) : Prop := ∀ Wx, Takes X Wx → PE X e (tE G X.K Wx f)
def GT (e : Expr) (f : ET) : Prop := ∀ Wx, Takes X Wx → PT X e (tT G X.K Wx f)
def GW (e : Expr) (f : ET) : Prop := ∀ Wx, Takes X Wx → PW X e (tT G X.K Wx f)
def GA (es : List Expr) (f : EA) : Prop := ∀ Wx, Takes X Wx → PA X es (tA G X.K Wx f)
def GF (e : Expr) (f : EA) : Prop := ∀ Wx, Takes X Wx → PE X e (tF G X.K Wx f)
end
section
variable {X : Cx} {e : Expr} {es : List Expr}
theorem pe_imp {t t' : TE} (h : PE X e t) (i : ∀ σ H Q, t' σ H Q → t σ H Q) : PE X e t' := ⟨fun pins s σ H Q I q => h.run pins s σ H Q I (i _ _ _ q)⟩
theorem pt_imp {t t' : TT} (h : PT X e t) (i : ∀ σ H Q, t' σ H Q → t σ H Q) : PT X e t' := ⟨fun pins s σ H Q I q => h.run pins s σ H Q I (i _ _ _ q)⟩
theorem pw_imp {t t' : TT} (h : PW X e t) (i : ∀ σ H Q, t' σ H Q → t σ H Q) : PW X e t' := ⟨fun wh pins s σ H Q I q => h.run wh pins s σ H Q I (i _ _ _ q)⟩
theorem pa_imp {t t' : TA} (h : PA X es t) (i : ∀ σ H Q, t' σ H Q → t σ H Q) : PA X es t' := ⟨fun pos pins s σ H Q I q => h.run pos pins s σ H Q I (i _ _ _ q)⟩
end

section
variable {G : Sig} {K : PySem.W.Frag} {Wx : WX} {σ : L2.St} {W W1 : Wd} {H H1 : Hp} {S S1 : Sto} {ρ : Frm}
/-- what was free is free -/
theorem Stp.free (T : Stp W H W1 H1) (R : RS G K W1 S1 H1) {p : Addr} (h : H1 p = none) : H p = none := by
  have L := R.nw h
  cases q : H p with
  | none => rfl
  | some o =>
    have L0 : Lone W p := by
      refine ⟨T.le.h.free L.h, ?_, fun hp => L.a ?_⟩
      · cases z : W.B p with
        | none => rfl
        | some x =>
          have := T.le.b p x z
          rw [L.b] at this; cases this
      · obtain ⟨l, e⟩ := T.le.a
        rw [← e]
        exact List.mem_append_left _ hp
    have := (T.lone p o q L0).1
    rw [h] at this; cases this
/-- a wish that may be told at a later moment -/
structure PKt {β : Type} (G : Sig) (K : PySem.W.Frag) (Wx : WX) (σ : L2.St) (P : Wd → Hp → Res β → Prop) : Prop where
  no : ∀ W H, P W H none → False
  er : ∀ W H e S, P W H (some (.error e, S)) → ∀ cls dx H' W', Stp W H W' H' → RS G K W' S H' → ErIs G K W' H' e cls dx → Wx cls dx σ H'
  later : ∀ W H W1 H1 S1 r, Stp W H W1 H1 → RS G K W1 S1 H1 → P W H r → P W1 H1 r
theorem pkE {Q : VK} : PKt G K Wx σ (PostE G K Wx σ Q) where
  no := fun _ _ h => h
  er := fun _ _ _ _ h => h
  later := fun W H W1 H1 S1 r T _ h => by
    match r, h with
    | some (.ok d, S), h => exact fun v H' W' T' R r => h v H' W' (T.trans T') R r
    | some (.error e, S), h => exact fun cls dx H' W' T' R r => h cls dx H' W' (T.trans T') R r
theorem pkT {Q : Bool → Hp → Prop} : PKt G K Wx σ (PostT G K Wx σ Q) where
  no := fun _ _ h => h
  er := fun _ _ _ _ h => h
  later := fun W H W1 H1 S1 r T _ h => by
    match r, h with
    | some (.ok d, S), h => exact fun H' W' T' R => h H' W' (T.trans T') R
    | some (.error e, S), h => exact fun cls dx H' W' T' R r => h cls dx H' W' (T.trans T') R r
theorem pkA {Q : List V → Hp → Prop} : PKt G K Wx σ (PostA G K Wx σ Q) where
  no := fun _ _ h => h
  er := fun _ _ _ _ h => h
  later := fun W H W1 H1 S1 r T _ h => by
    match r, h with
    | some (.ok d, S), h => exact fun v H' W' T' R r => h v H' W' (T.trans T') R r
    | some (.error e, S), h => exact fun cls dx H' W' T' R r => h cls dx H' W' (T.trans T') R r
theorem pkF {Q : VK} : PKt G K Wx σ (PostF G K Wx σ Q) where
  no := fun _ _ h => h
  er := fun _ _ _ _ h => h
  later := fun W H W1 H1 S1 r T R1 h => by
    match r, h with
    | some (.ok d, S), h => exact fun p vs H' W' T' R hp L e r => h p vs H' W' (T.trans T') R (T.free R1 hp) L e r
    | some (.error e, S), h => exact fun cls dx H' W' T' R r => h cls dx H' W' (T.trans T') R r

variable {β : Type} {P : Wd → Hp → Res β → Prop}
/-- one after another: the wish of the whole, at the first's end -/
theorem tE_of {f : EX} {k : D → Sto → Res β} {Q' : VK} (pk : PKt G K Wx σ P) (E : RE K W ρ σ) (R : RS G K W S H) (h : P W H (bnd (f ρ S) k))
    (c : ∀ d S' v H' W', Stp W H W' H' → RE K W' ρ σ → RS G K W' S' H' → Rep K W' d v → P W' H' (k d S') → Q' v H') : tE G K Wx f σ H Q' := by
  refine ⟨ρ, S, W, E, R, ?_⟩
  generalize f ρ S = r at h ⊢
  match r, h with
  | none, h => exact pk.no _ _ h
  | some (.ok d, S'), h => exact fun v H' W' T R' r => c d S' v H' W' T (E.mono T.le) R' r (pk.later _ _ _ _ _ _ T R' h)
  | some (.error e, S'), h => exact pk.er _ _ _ _ h
theorem tT_of {f : ET} {k : Bool → Sto → Res β} {Q' : Bool → Hp → Prop} (pk : PKt G K Wx σ P) (E : RE K W ρ σ) (R : RS G K W S H) (h : P W H (bnd (f ρ S) k))
    (c : ∀ b S' H' W', Stp W H W' H' → RE K W' ρ σ → RS G K W' S' H' → P W' H' (k b S') → Q' b H') : tT G K Wx f σ H Q' := by
  refine ⟨ρ, S, W, E, R, ?_⟩
  generalize f ρ S = r at h ⊢
  match r, h with
  | none, h => exact pk.no _ _ h
  | some (.ok d, S'), h => exact fun H' W' T R' => c d S' H' W' T (E.mono T.le) R' (pk.later _ _ _ _ _ _ T R' h)
  | some (.error e, S'), h => exact pk.er _ _ _ _ h
theorem tA_of {f : EA} {k : List D → Sto → Res β} {Q' : List V → Hp → Prop} (pk : PKt G K Wx σ P) (E : RE K W ρ σ) (R : RS G K W S H) (h : P W H (bnd (f ρ S) k))
    (c : ∀ ds S' vs H' W', Stp W H W' H' → RE K W' ρ σ → RS G K W' S' H' → Reps K W' ds vs → P W' H' (k ds S') → Q' vs H') : tA G K Wx f σ H Q' := by
  refine ⟨ρ, S, W, E, R, ?_⟩
  generalize f ρ S = r at h ⊢
  match r, h with
  | none, h => exact pk.no _ _ h
  | some (.ok d, S'), h => exact fun v H' W' T R' r => c d S' v H' W' T (E.mono T.le) R' r (pk.later _ _ _ _ _ _ T R' h)
  | some (.error e, S'), h => exact pk.er _ _ _ _ h
theorem tF_of {f : EA} {k : List D → Sto → Res β} {Q' : VK} (pk : PKt G K Wx σ P) (E : RE K W ρ σ) (R : RS G K W S H) (h : P W H (bnd (f ρ S) k))
    (c : ∀ ds S' p vs H' W', Stp W H W' H' → RE K W' ρ σ → RS G K W' S' H' → H p = none → Lone W' p → H' p = some (.lst vs) → Reps K W' ds vs → P W H (k ds S') → Q' (.ref p) H') : tF G K Wx f σ H Q' := by
  refine ⟨ρ, S, W, E, R, ?_⟩
  generalize f ρ S = r at h ⊢
  match r, h with
  | none, h => exact pk.no _ _ h
  | some (.ok d, S'), h => exact fun p vs H' W' T R' h0 L e r => c d S' p vs H' W' T (E.mono T.le) R' h0 L e r h
  | some (.error e, S'), h => exact pk.er _ _ _ _ h
end
end EV

/-! E2: expressions: names, constants, operators, comparisons, tests, displays, places. -/
namespace EV
open PySem PySem.Spec PyProof.Rows L2

def cap : Nat := 16000000
theorem cap_le : cap ≤ sizeLine := by rw [sizeLine_eq]; decide

/-! ### what the operators are on data -/
def xVar (i : Nat) : EX := fun ρ S => match ρ[i]? with
  | some (some d) => some (.ok d, S)
  | _ => none
def xC (d : D) : EX := fun _ S => some (.ok d, S)
def xBin (g : D → D → Sto → Res D) (a b : EX) : EX := fun ρ S => bnd (a ρ S) fun x S1 => bnd (b ρ S1) fun y S2 => g x y S2
def xUn (g : D → Sto → Res D) (a : EX) : EX := fun ρ S => bnd (a ρ S) fun x S1 => g x S1
def xCmp (g : D → D → Sto → Res Bool) (a b : EX) : ET := fun ρ S => bnd (a ρ S) fun x S1 => bnd (b ρ S1) fun y S2 => g x y S2
/-- a test's answer as a value, a value as a test's answer -/
def xBl (t : ET) : EX := fun ρ S => bnd (t ρ S) fun b S1 => some (.ok (.bl b), S1)
def xTs (a : EX) : ET := fun ρ S => bnd (a ρ S) fun x S1 => match x with
  | .bl b => some (.ok b, S1)
  | _ => none
def xAnd (t u : ET) : ET := fun ρ S => bnd (t ρ S) fun b S1 => if b then u ρ S1 else some (.ok false, S1)
def xOr (t u : ET) : ET := fun ρ S => bnd (t ρ S) fun b S1 => if b then some (.ok true, S1) else u ρ S1
def xNot (t : ET) : ET := fun ρ S => bnd (t ρ S) fun b S1 => some (.ok (!b), S1)
def xIf (t : ET) (a b : EX) : EX := fun ρ S => bnd (t ρ S) fun c S1 => if c then a ρ S1 else b ρ S1
def xNil : EA := fun _ S => some (.ok [], S)
def xCons (a : EX) (r : EA) : EA := fun ρ S => bnd (a ρ S) fun x S1 => bnd (r ρ S1) fun xs S2 => some (.ok (x :: xs), S2)
def xTup (r : EA) : EX := fun ρ S => bnd (r ρ S) fun xs S1 => if xs.length ≤ cap then some (.ok (.tup xs), S1) else none
def xLst (r : EA) : EA := fun ρ S => bnd (r ρ S) fun xs S1 => if xs.length ≤ cap then some (.ok xs, S1) else none
/-- a new list as a value for ever; as a cell -/
def xFrz (r : EA) : EX := fun ρ S => bnd (r ρ S) fun xs S1 => some (.ok (.lst xs), S1)
def xCel (r : EA) : EX := fun ρ S => bnd (r ρ S) fun xs S1 => some (.ok (.cell S1.length), S1 ++ [some (.lst xs)])

/-- the items of a list or a tuple -/
def seqD (S : Sto) : D → Option (List D)
  | .tup xs => some xs
  | .lst xs => some xs
  | .scr ns => some (ns.map .int)
  | .cell n => match S[n]? with
    | some (some (.lst xs)) => some xs
    | _ => none
  | _ => none
def mulOk (i j : Int) : Bool := decide (i.natAbs.log2 + j.natAbs.log2 < 1000000)
def powOk (i j : Int) : Bool := decide (0 ≤ j) && decide ((i.natAbs.log2 + 1) * j.toNat ≤ 134217728)
def divOk (j : Int) : Bool := decide (0 < j) && decide (j.natAbs.log2 < 9000)
def gAdd : D → D → Sto → Res D
  | .int i, .int j, S => some (.ok (.int (i + j)), S)
  | _, _, _ => none
def gSub : D → D → Sto → Res D
  | .int i, .int j, S => some (.ok (.int (i - j)), S)
  | _, _, _ => none
def gMul : D → D → Sto → Res D
  | .int i, .int j, S => if mulOk i j then some (.ok (.int (i * j)), S) else none
  | _, _, _ => none
def gDiv : D → D → Sto → Res D
  | .int i, .int j, S => if divOk j then some (.ok (.int (i / j)), S) else none
  | _, _, _ => none
def gMod : D → D → Sto → Res D
  | .int i, .int j, S => if 0 < j then some (.ok (.int (i % j)), S) else none
  | _, _, _ => none
def gPow : D → D → Sto → Res D
  | .int i, .int j, S => if powOk i j then some (.ok (.int (i ^ j.toNat)), S) else none
  | _, _, _ => none
def gNeg : D → Sto → Res D
  | .int i, S => some (.ok (.int (-i)), S)
  | _, _ => none
def gIdx : D → D → Sto → Res D
  | x, .int i, S => match seqD S x with
    | some xs => match atI xs i with
      | some d => some (.ok d, S)
      | none => none
    | none => none
  | _, _, _ => none
def gCmp (p : Int → Int → Bool) : D → D → Sto → Res Bool
  | .int i, .int j, S => some (.ok (p i j), S)
  | _, _, _ => none
mutual
/-- data through and through, as PyData -/
def toP : D → Option PyData
  | .non => some .none
  | .bl b => some (.bool b)
  | .int i => some (.int i)
  | .str x => some (.str x)
  | .tup xs => (toPs xs).map .tuple
  | .lst xs => (toPs xs).map .list
  | _ => none
def toPs : List D → Option (List PyData)
  | [] => some []
  | x :: xs => match toP x, toPs xs with
    | some p, some ps => some (p :: ps)
    | _, _ => none
end
/-- .. or a cell that holds such data -/
def toPc (S : Sto) : D → Option PyData
  | .cell n => match S[n]? with
    | some (some (.lst xs)) => (toPs xs).map .list
    | _ => none
  | d => toP d
def gEqD (neg : Bool) (x y : D) (S : Sto) : Res Bool := match toPc S x, toPc S y with
  | some p, some q => if SeqAt.shaped p && SeqAt.shaped q then some (.ok (xor neg (PyData.eqv p q)), S) else none
  | _, _ => none
def gEq (neg : Bool) (x y : D) (S : Sto) : Res Bool := match x, y with
  | .str a, .str b => some (.ok (xor neg (decide (a = b))), S)
  | x, y => gEqD neg x y S
def isN : D → Bool
  | .non => true
  | _ => false
/-- is None, is not None -/
def gIsN (neg : Bool) : D → D → Sto → Res Bool
  | x, .non, S => some (.ok (xor neg (isN x)), S)
  | _, _, _ => none

section
variable {G : Sig} {K : PySem.W.Frag} {W : Wd} {S : Sto} {H : Hp}
theorem Wd.sqL {a : Addr} {vs : List V} (R : RS G K W S H) (h : W.H a = some (.lst vs)) : SqL K H a vs := .of (R.fr _ _ h)
/-- a sequence as it stands -/
theorem RS.seq (R : RS G K W S H) : ∀ {d : D} {u : V} {xs : List D}, Rep K W d u → seqD S d = some xs → ∃ a vs, u = .ref a ∧ (SqL K H a vs ∨ SqT K H a vs) ∧ Reps K W xs vs
  | _, _, _, .tup h r, e => by cases e; exact ⟨_, _, rfl, .inr (.of (R.fr _ _ h)), r⟩
  | _, _, _, .lst h r, e => by cases e; exact ⟨_, _, rfl, .inl (.of (R.fr _ _ h)), r⟩
  | _, _, _, .scr h, e => by cases e; exact ⟨_, _, rfl, .inl (R.fr.seq h), .ints⟩
  | _, _, _, .cell (n := n) h, e => by
    dsimp only [seqD] at e
    split at e
    · rename_i ds q
      cases e
      obtain ⟨a, h1, _, vs, h3, h4⟩ := R.cl n _ q
      rw [h] at h1
      cases h1
      exact ⟨_, _, rfl, .inl (.of h3), h4⟩
    · cases e
  | _, _, _, .non, e => by cases e
  | _, _, _, .bl _, e => by cases e
  | _, _, _, .int _, e => by cases e
  | _, _, _, .str _, e => by cases e
  | _, _, _, .obj _, e => by cases e
theorem Reps.atI {ds : List D} {vs : List V} {i : Int} {d : D} (r : Reps K W ds vs) (h : L2.atI ds i = some d) : ∃ v, L2.atI vs i = some v ∧ Rep K W d v := by
  unfold L2.atI at h ⊢
  rw [r.length] at h
  cases q : ixN vs.length i with
  | none => rw [q] at h; cases h
  | some j =>
    rw [q] at h
    exact r.get h
mutual
theorem Rep.dp (R : RS G K W S H) : ∀ {d : D} {u : V} {p : PyData}, Rep K W d u → toP d = some p → Dp K H u p
  | _, _, _, .non, e => by cases e; exact .non
  | _, _, _, .bl b, e => by cases e; exact .bl b
  | _, _, _, .int i, e => by cases e; exact .int i
  | _, _, _, .str x, e => by cases e; exact .str x
  | _, _, _, .tup (ds := ds) h r, e => by
    rw [toP] at e
    cases q : toPs ds with
    | none => rw [q] at e; cases e
    | some ps => rw [q] at e; cases e; exact .tup (.of (R.fr _ _ h)) (Reps.dp R r q)
  | _, _, _, .lst (ds := ds) h r, e => by
    rw [toP] at e
    cases q : toPs ds with
    | none => rw [q] at e; cases e
    | some ps => rw [q] at e; cases e; exact .lst (.of (R.fr _ _ h)) (Reps.dp R r q)
  | _, _, _, .scr _, e => by cases e
  | _, _, _, .cell _, e => by cases e
  | _, _, _, .obj _, e => by cases e
theorem Reps.dp (R : RS G K W S H) : ∀ {ds : List D} {us : List V} {ps : List PyData}, Reps K W ds us → toPs ds = some ps → DpAll K H us ps
  | _, _, _, .nil, e => by cases e; exact .nil
  | _, _, _, .cons (d := d) (ds := ds) h r, e => by
    rw [toPs] at e
    split at e
    · rename_i p ps q1 q2
      cases e
      exact .cons (Rep.dp R h q1) (Reps.dp R r q2)
    · cases e
end
theorem RS.dpc (R : RS G K W S H) {d : D} {u : V} {p : PyData} (r : Rep K W d u) (e : toPc S d = some p) : Dp K H u p := by
  cases r with
  | @cell a n h =>
    unfold toPc at e
    dsimp only at e
    split at e
    · rename_i ds q
      cases z : toPs ds with
      | none => rw [z] at e; cases e
      | some ps =>
        rw [z] at e; cases e
        obtain ⟨a', h1, _, vs, h3, h4⟩ := R.cl n _ q
        rw [h] at h1
        cases h1
        exact .lst (.of h3) (h4.dp R z)
    · cases e
  | non => exact Rep.dp R .non e
  | bl b => exact Rep.dp R (.bl b) e
  | int i => exact Rep.dp R (.int i) e
  | str x => exact Rep.dp R (.str x) e
  | tup h r => exact Rep.dp R (.tup h r) e
  | lst h r => exact Rep.dp R (.lst h r) e
  | scr h => exact Rep.dp R (.scr h) e
  | obj h => exact Rep.dp R (.obj h) e
  | err h => exact Rep.dp R (.err h) e
end

/-! ### rules for operators: on data -/
section
variable (G : Sig) (X : Cx)
def OpOk (r : R2) (g : D → D → Sto → Res D) : Prop := ∀ (Wx : WX) (σ : L2.St) (Q : VK) (W : Wd) (S : Sto) (H : Hp) (x y : D) (u v : V),
  RS G X.K W S H → Rep X.K W x u → Rep X.K W y v → PostE G X.K Wx σ Q W H (g x y S) → r u v H Q
def OpOkB (r : R2) (g : D → D → Sto → Res Bool) : Prop := ∀ (Wx : WX) (σ : L2.St) (Q : VK) (W : Wd) (S : Sto) (H : Hp) (x y : D) (u v : V),
  RS G X.K W S H → Rep X.K W x u → Rep X.K W y v → PostT G X.K Wx σ (fun b H' => Q (.bl b) H') W H (g x y S) → r u v H Q
def OpOkF (r : R2) (g : D → D → Sto → Res (List D)) : Prop := ∀ (Wx : WX) (σ : L2.St) (Q : VK) (W : Wd) (S : Sto) (H : Hp) (x y : D) (u v : V),
  RS G X.K W S H → Rep X.K W x u → Rep X.K W y v → PostF G X.K Wx σ Q W H (g x y S) → r u v H Q
end
section
variable {G : Sig} {X : Cx} {a b c : Expr} {fa fb fc : EX} {ft fu : ET} {pos : Pos}
theorem ge_var {i : Nat} {x : Str} (hN : X.N[i]? = some x) (hv : Vis X.env.scope x) (hd : (x == ("__debug__" : Str)) = false := by decide) (hcd : (x == ("__classdict__" : Str)) = false := by decide) : GE G X (.Name x pos) (xVar i) := by
  intro Wx tk
  refine pe_imp (pe_var hN hv hd hcd) ?_
  rintro σ H Q ⟨ρ, S, W, E, R, h⟩
  unfold xVar at h
  split at h
  · rename_i d e
    obtain ⟨v, h1, h2⟩ := E.2 i d e
    exact ⟨v, h1, h v H W (.refl _ _) R h2⟩
  · exact h.elim
theorem ge_c {e : Expr} {d : D} {v : V} (h : PE X e (tC v)) (r : ∀ K W, Rep K W d v) : GE G X e (xC d) := by
  intro Wx tk
  refine pe_imp h ?_
  rintro σ H Q ⟨ρ, S, W, E, R, h⟩
  exact h v H W (.refl _ _) R (r _ _)
theorem ge_int {i : Int} {j} : GE G X (.Constant (.int i) j pos) (xC (.int i)) := ge_c pe_int fun _ _ => .int i
theorem ge_bl {k : Bool} {j} : GE G X (.Constant (.bool k) j pos) (xC (.bl k)) := ge_c pe_bl fun _ _ => .bl k
theorem ge_non {j} : GE G X (.Constant .none j pos) (xC .non) := ge_c pe_non fun _ _ => .non
theorem ge_str {x : Str} {j} : GE G X (.Constant (.str x) j pos) (xC (.str x)) := ge_c pe_str fun _ _ => .str x
theorem ge_bin {op : Operator} {r : R2} {g : D → D → Sto → Res D} (ho : OpR X (binaryOp op) r) (hg : OpOk G X r g) (ha : GE G X a fa) (hb : GE G X b fb) : GE G X (.BinOp a op b pos) (xBin g fa fb) := by
  intro Wx tk
  refine pe_imp (pe_op ho (ha Wx tk) (hb Wx tk)) ?_
  rintro σ H Q ⟨ρ, S, W, E, R, h⟩
  exact tE_of pkE E R h fun x S1 u H1 W1 T1 E1 R1 r1 h1 => tE_of pkE E1 R1 h1 fun y S2 v H2 W2 T2 E2 R2 r2 h2 => hg _ _ _ _ _ _ _ _ _ _ R2 (r1.mono T2.le) r2 h2
theorem gf_bin {op : Operator} {r : R2} {g : D → D → Sto → Res (List D)} (ho : OpR X (binaryOp op) r) (hg : OpOkF G X r g) (ha : GE G X a fa) (hb : GE G X b fb) :
    GF G X (.BinOp a op b pos) (fun ρ S => bnd (fa ρ S) fun x S1 => bnd (fb ρ S1) fun y S2 => g x y S2) := by
  intro Wx tk
  refine pe_imp (pe_op ho (ha Wx tk) (hb Wx tk)) ?_
  rintro σ H Q ⟨ρ, S, W, E, R, h⟩
  exact tE_of pkF E R h fun x S1 u H1 W1 T1 E1 R1 r1 h1 => tE_of pkF E1 R1 h1 fun y S2 v H2 W2 T2 E2 R2 r2 h2 => hg _ _ _ _ _ _ _ _ _ _ R2 (r1.mono T2.le) r2 h2
theorem ge_idx {r : R2} {g : D → D → Sto → Res D} (hr : IxR X r) (hg : OpOk G X r g) (ha : GE G X a fa) (hb : GE G X b fb) (hs : PlainIx b) : GE G X (.Subscript a b pos) (xBin g fa fb) := by
  intro Wx tk
  refine pe_imp (pe_ix hr (ha Wx tk) (hb Wx tk) hs) ?_
  rintro σ H Q ⟨ρ, S, W, E, R, h⟩
  exact tE_of pkE E R h fun x S1 u H1 W1 T1 E1 R1 r1 h1 => tE_of pkE E1 R1 h1 fun y S2 v H2 W2 T2 E2 R2 r2 h2 => hg _ _ _ _ _ _ _ _ _ _ R2 (r1.mono T2.le) r2 h2
theorem ge_un {op : UnaryOp} {r : V → Hp → VK → Prop} {g : D → Sto → Res D} (ho : UnR X (unaryOp op) r)
    (hg : ∀ Wx σ Q W S H x u, RS G X.K W S H → Rep X.K W x u → PostE G X.K Wx σ Q W H (g x S) → r u H Q) (ha : GE G X a fa) : GE G X (.UnaryOp op a pos) (xUn g fa) := by
  intro Wx tk
  refine pe_imp (pe_un ho (ha Wx tk)) ?_
  rintro σ H Q ⟨ρ, S, W, E, R, h⟩
  exact tE_of pkE E R h fun x S1 u H1 W1 T1 E1 R1 r1 h1 => hg _ _ _ _ _ _ _ _ R1 r1 h1
/-- a comparison as a value, as a test -/
theorem ge_cmp {op : CmpOp} {r : R2} {g : D → D → Sto → Res Bool} (ho : OpR X (compareOp op) r) (hg : OpOkB G X r g) (ha : GE G X a fa) (hb : GE G X b fb) (hm : behindInMarks op b = false) :
    GE G X (.Compare a [op] [b] pos) (xBl (xCmp g fa fb)) := by
  intro Wx tk
  refine pe_imp (pe_cmpR ho (ha Wx tk) (hb Wx tk) hm) ?_
  rintro σ H Q ⟨ρ, S, W, E, R, h⟩
  have h' : PostT G X.K Wx σ (fun b H' => Q (.bl b) H') W H (xCmp g fa fb ρ S) := by
    unfold xBl at h
    generalize xCmp g fa fb ρ S = z at h ⊢
    match z, h with
    | none, h => exact h.elim
    | some (.ok b, S1), h => exact fun H' W' T R' => h _ H' W' T R' (.bl b)
    | some (.error e, S1), h => exact h
  exact tE_of pkT E R h' fun x S1 u H1 W1 T1 E1 R1 r1 h1 => tE_of pkT E1 R1 h1 fun y S2 v H2 W2 T2 E2 R2 r2 h2 => hg _ _ _ _ _ _ _ _ _ _ R2 (r1.mono T2.le) r2 h2
theorem gt_cmp {op : CmpOp} {r : R2} {g : D → D → Sto → Res Bool} (ho : OpR X (compareOp op) r) (hg : OpOkB G X r g) (ha : GE G X a fa) (hb : GE G X b fb) (hm : behindInMarks op b = false) :
    GT G X (.Compare a [op] [b] pos) (xCmp g fa fb) := by
  intro Wx tk
  refine pt_imp (pt_cmpR ho (ha Wx tk) (hb Wx tk) hm) ?_
  rintro σ H Q ⟨ρ, S, W, E, R, h⟩
  have h' : PostT G X.K Wx σ (fun b H' => ∃ k, V.bl b = .bl k ∧ Q k H') W H (xCmp g fa fb ρ S) := by
    generalize xCmp g fa fb ρ S = z at h ⊢
    match z, h with
    | none, h => exact h.elim
    | some (.ok b, S1), h => exact fun H' W' T R' => ⟨b, rfl, h H' W' T R'⟩
    | some (.error e, S1), h => exact h
  exact tE_of pkT E R h' fun x S1 u H1 W1 T1 E1 R1 r1 h1 => tE_of pkT E1 R1 h1 fun y S2 v H2 W2 T2 E2 R2 r2 h2 => hg _ _ _ _ _ _ _ _ _ _ R2 (r1.mono T2.le) r2 h2
theorem gt_val {e : Expr} {f : EX} (h : GE G X e f) (he : ∀ whole, isTrue e X.env whole = (do let v ← whole; standAt e.pos; holding [v] (truthy v)) := by intro _; rfl) : GT G X e (xTs f) := by
  intro Wx tk
  refine pt_imp (pt_val (h Wx tk) he) ?_
  rintro σ H Q ⟨ρ, S, W, E, R, h⟩
  refine tE_of pkT E R h fun x S1 u H1 W1 T1 E1 R1 r1 h1 => ?_
  cases r1 with
  | bl b => exact ⟨b, rfl, h1 H1 W1 (.refl _ _) R1⟩
  | _ => exact h1.elim
theorem gt_of (h : GW G X a ft) : GT G X a ft := fun Wx tk => (h Wx tk).pt
theorem gw_and1 (h : GT G X a ft) : GW G X (.BoolOp .And [a] pos) ft := fun Wx tk => pw_and1 (h Wx tk)
theorem gw_or1 (h : GT G X a ft) : GW G X (.BoolOp .Or [a] pos) ft := fun Wx tk => pw_or1 (h Wx tk)
theorem gw_and {rest : List Expr} (ha : GT G X a ft) (hb : GW G X (.BoolOp .And (b :: rest) pos) fu) : GW G X (.BoolOp .And (a :: b :: rest) pos) (xAnd ft fu) := by
  intro Wx tk
  refine pw_imp (pw_and (ha Wx tk) (hb Wx tk)) ?_
  rintro σ H Q ⟨ρ, S, W, E, R, h⟩
  refine tT_of pkT E R h fun c S1 H1 W1 T1 E1 R1 h1 => ?_
  cases c with
  | true => exact iteT ⟨ρ, S1, W1, E1, R1, h1⟩
  | false => exact iteF (h1 H1 W1 (.refl _ _) R1)
theorem gw_or {rest : List Expr} (ha : GT G X a ft) (hb : GW G X (.BoolOp .Or (b :: rest) pos) fu) : GW G X (.BoolOp .Or (a :: b :: rest) pos) (xOr ft fu) := by
  intro Wx tk
  refine pw_imp (pw_or (ha Wx tk) (hb Wx tk)) ?_
  rintro σ H Q ⟨ρ, S, W, E, R, h⟩
  refine tT_of pkT E R h fun c S1 H1 W1 T1 E1 R1 h1 => ?_
  cases c with
  | true => exact iteT (h1 H1 W1 (.refl _ _) R1)
  | false => exact iteF ⟨ρ, S1, W1, E1, R1, h1⟩
theorem gt_not (h : GT G X a ft) : GT G X (.UnaryOp .Not a pos) (xNot ft) := by
  intro Wx tk
  refine pt_imp (pt_not (h Wx tk)) ?_
  rintro σ H Q ⟨ρ, S, W, E, R, h⟩
  exact tT_of pkT E R h fun c S1 H1 W1 T1 E1 R1 h1 => h1 H1 W1 (.refl _ _) R1
/-- .. as values -/
theorem xBl_post {K : PySem.W.Frag} {Wx : WX} {σ : L2.St} {Q : VK} {W : Wd} {H : Hp} {r : Res Bool} (h : PostE G K Wx σ Q W H (bnd r fun b S1 => some (.ok (.bl b), S1))) : PostT G K Wx σ (fun b H' => Q (.bl b) H') W H r := by
  match r, h with
  | none, h => exact h.elim
  | some (.ok b, S1), h => exact fun H' W' T R' => h _ H' W' T R' (.bl b)
  | some (.error e, S1), h => exact h
theorem tE_bl {K : PySem.W.Frag} {Wx : WX} {σ : L2.St} {Q : VK} {W : Wd} {S : Sto} {H : Hp} {ρ : Frm} (E : RE K W ρ σ) (R : RS G K W S H) (h : PostT G K Wx σ (fun b H' => Q (.bl b) H') W H (ft ρ S)) : tE G K Wx (xBl ft) σ H Q := by
  refine ⟨ρ, S, W, E, R, ?_⟩
  unfold xBl
  generalize ft ρ S = r at h ⊢
  match r, h with
  | none, h => exact h.elim
  | some (.ok b, S1), h =>
    intro v H' W' T R' r
    cases r
    exact h H' W' T R'
  | some (.error e, S1), h => exact h
theorem tE_bl2 {K : PySem.W.Frag} {Wx : WX} {σ : L2.St} {Q Q' : VK} {W : Wd} {S : Sto} {H : Hp} {ρ : Frm} (E : RE K W ρ σ) (R : RS G K W S H) (h : PostT G K Wx σ (fun b H' => Q (.bl b) H') W H (ft ρ S)) (i : ∀ b H', Q (.bl b) H' → Q' (.bl b) H') : tE G K Wx (xBl ft) σ H Q' := by
  refine tE_bl E R ?_
  generalize ft ρ S = r at h ⊢
  match r, h with
  | none, h => exact h.elim
  | some (.ok b, S1), h => exact fun H' W' T R' => i _ _ (h H' W' T R')
  | some (.error e, S1), h => exact h
theorem ge_one {op} (h : GE G X a (xBl ft)) : GE G X (.BoolOp op [a] pos) (xBl ft) := fun Wx tk => pe_one (h Wx tk)
theorem ge_and {rest : List Expr} (ha : GE G X a (xBl ft)) (hb : GE G X (.BoolOp .And (b :: rest) pos) (xBl fu)) : GE G X (.BoolOp .And (a :: b :: rest) pos) (xBl (xAnd ft fu)) := by
  intro Wx tk
  refine pe_imp (pe_and (ha Wx tk) (hb Wx tk)) ?_
  rintro σ H Q ⟨ρ, S, W, E, R, h⟩
  have h' := xBl_post h
  unfold xAnd at h'
  refine ⟨ρ, S, W, E, R, ?_⟩
  unfold xBl
  generalize ft ρ S = r at h' ⊢
  match r, h' with
  | none, h' => exact h'.elim
  | some (.error e, S1), h' => exact h'
  | some (.ok true, S1), h' =>
    intro v H' W' T R' r
    cases r
    exact ⟨true, rfl, iteT (tE_bl (E.mono T.le) R' (pkT.later _ _ _ _ _ _ T R' h'))⟩
  | some (.ok false, S1), h' =>
    intro v H' W' T R' r
    cases r
    exact ⟨false, rfl, iteF (h' H' W' T R')⟩
theorem ge_or {rest : List Expr} (ha : GE G X a (xBl ft)) (hb : GE G X (.BoolOp .Or (b :: rest) pos) (xBl fu)) : GE G X (.BoolOp .Or (a :: b :: rest) pos) (xBl (xOr ft fu)) := by
  intro Wx tk
  refine pe_imp (pe_or (ha Wx tk) (hb Wx tk)) ?_
  rintro σ H Q ⟨ρ, S, W, E, R, h⟩
  have h' := xBl_post h
  unfold xOr at h'
  refine ⟨ρ, S, W, E, R, ?_⟩
  unfold xBl
  generalize ft ρ S = r at h' ⊢
  match r, h' with
  | none, h' => exact h'.elim
  | some (.error e, S1), h' => exact h'
  | some (.ok true, S1), h' =>
    intro v H' W' T R' r
    cases r
    exact ⟨true, rfl, iteT (h' H' W' T R')⟩
  | some (.ok false, S1), h' =>
    intro v H' W' T R' r
    cases r
    exact ⟨false, rfl, iteF (tE_bl (E.mono T.le) R' (pkT.later _ _ _ _ _ _ T R' h'))⟩
theorem ge_not (ha : GE G X a (xBl ft)) : GE G X (.UnaryOp .Not a pos) (xBl (xNot ft)) := by
  intro Wx tk
  refine pe_imp (pe_not (ha Wx tk)) ?_
  rintro σ H Q ⟨ρ, S, W, E, R, h⟩
  have h' := xBl_post h
  unfold xNot at h'
  refine ⟨ρ, S, W, E, R, ?_⟩
  unfold xBl
  generalize ft ρ S = r at h' ⊢
  match r, h' with
  | none, h' => exact h'.elim
  | some (.error e, S1), h' => exact h'
  | some (.ok k, S1), h' =>
    intro v H' W' T R' r
    cases r
    exact ⟨k, rfl, h' H' W' T R'⟩
/-- an expression that gives a truth value: as the value of a test -/
theorem ge_blv {e : Expr} {f : EX} (h : GE G X e f) : GE G X e (xBl (xTs f)) := by
  intro Wx tk
  refine pe_imp (h Wx tk) ?_
  rintro σ H Q ⟨ρ, S, W, E, R, h⟩
  refine ⟨ρ, S, W, E, R, ?_⟩
  unfold xBl xTs at h
  generalize f ρ S = r at h ⊢
  match r, h with
  | none, h => exact h.elim
  | some (.error e, S1), h => exact h
  | some (.ok d, S1), h =>
    cases d with
    | bl k =>
      intro v H' W' T R' r
      cases r
      exact h _ H' W' T R' (.bl k)
    | _ => exact h.elim
theorem ge_if (hc : GT G X c ft) (ha : GE G X a fa) (hb : GE G X b fb) : GE G X (.IfExp c a b pos) (xIf ft fa fb) := by
  intro Wx tk
  refine pe_imp (pe_ifExp (hc Wx tk) (ha Wx tk) (hb Wx tk)) ?_
  rintro σ H Q ⟨ρ, S, W, E, R, h⟩
  refine tT_of pkE E R h fun k S1 H1 W1 T1 E1 R1 h1 => ?_
  cases k with
  | true => exact iteT ⟨ρ, S1, W1, E1, R1, h1⟩
  | false => exact iteF ⟨ρ, S1, W1, E1, R1, h1⟩
/-! ### arguments, displays -/
variable {es : List Expr} {fr : EA}
theorem ga_nil : GA G X [] xNil := by
  intro Wx tk
  refine pa_imp pa_nil ?_
  rintro σ H Q ⟨ρ, S, W, E, R, h⟩
  exact h [] H W (.refl _ _) R .nil
theorem ga_cons (ha : GE G X a fa) (hr : GA G X es fr) (hs : starEach (a :: es) X.env = (false, eval a X.env) :: starEach es X.env := by rfl) : GA G X (a :: es) (xCons fa fr) := by
  intro Wx tk
  refine pa_imp (pa_cons (ha Wx tk) (hr Wx tk) hs) ?_
  rintro σ H Q ⟨ρ, S, W, E, R, h⟩
  exact tE_of pkA E R h fun x S1 u H1 W1 T1 E1 R1 r1 h1 => tA_of pkA E1 R1 h1 fun ys S2 vs H2 W2 T2 E2 R2 r2 h2 => h2 _ H2 W2 (.refl _ _) R2 (.cons (r1.mono T2.le) r2)
theorem ge_tup {k} (hr : GA G X es fr) : GE G X (.Tuple es k pos) (xTup fr) := by
  intro Wx tk
  refine pe_imp (pe_tup (hr Wx tk)) ?_
  rintro σ H Q ⟨ρ, S, W, E, R, h⟩
  refine tA_of pkE E R h fun ys S1 vs H1 W1 T1 E1 R1 r1 h1 => ?_
  by_cases hl : ys.length ≤ cap
  · rw [if_pos hl] at h1
    refine ⟨Nat.le_trans (by rw [← r1.length]; exact hl) cap_le, fun p hp => ?_⟩
    obtain ⟨T2, R2, L2⟩ := R1.new hp (.tup vs)
    obtain ⟨W3, le3, T3, R3, e3⟩ := R2.frz T2 hp L2 upd_same
    exact h1 _ _ W3 T3 R3 (.tup e3 (r1.mono le3))
  · rw [if_neg hl] at h1
    exact h1.elim
theorem gf_lst (hr : GA G X es fr) : GF G X (.List es pos) (xLst fr) := by
  intro Wx tk
  refine pe_imp (pe_lst (hr Wx tk)) ?_
  rintro σ H Q ⟨ρ, S, W, E, R, h⟩
  refine tA_of pkF E R h fun ys S1 vs H1 W1 T1 E1 R1 r1 h1 => ?_
  by_cases hl : ys.length ≤ cap
  · rw [if_pos hl] at h1
    refine ⟨Nat.le_trans (by rw [← r1.length]; exact hl) cap_le, fun p hp => ?_⟩
    obtain ⟨T2, R2, L2⟩ := R1.new hp (.lst vs)
    exact h1 p vs _ W1 T2 R2 hp L2 upd_same r1
  · rw [if_neg hl] at h1
    exact h1.elim
theorem ge_frz {e : Expr} (h : GF G X e fr) : GE G X e (xFrz fr) := by
  intro Wx tk
  refine pe_imp (h Wx tk) ?_
  rintro σ H Q ⟨ρ, S, W, E, R, h⟩
  refine tF_of pkE E R h fun ds S1 p vs H1 W1 T1 E1 R1 h0 L e r h1 => ?_
  obtain ⟨W3, le3, T3, R3, e3⟩ := R1.frz T1 h0 L e
  exact h1 _ _ W3 T3 R3 (.lst e3 (r.mono le3))
theorem ge_cel {e : Expr} (h : GF G X e fr) : GE G X e (xCel fr) := by
  intro Wx tk
  refine pe_imp (h Wx tk) ?_
  rintro σ H Q ⟨ρ, S, W, E, R, h⟩
  refine tF_of pkE E R h fun ds S1 p vs H1 W1 T1 E1 R1 h0 L e r h1 => ?_
  obtain ⟨W3, le3, T3, R3, e3⟩ := R1.cell T1 h0 L (c := .lst ds) ⟨vs, e, r⟩
  exact h1 _ _ W3 T3 R3 (.cell e3)
end
end EV

/-! E3: operators and built-ins on data. -/
namespace EV
open PySem PySem.Spec PyProof.Rows L2

section
variable {G : Sig} {X : Cx}
/-! ### ints -/
theorem ok_add : OpOk G X (rI0 fun i j => .int (i + j)) gAdd := by
  intro Wx σ Q W S H x y u v R rx ry h
  cases rx with
  | int i =>
    cases ry with
    | int j => exact ⟨i, j, rfl, rfl, h _ H W (.refl _ _) R (.int _)⟩
    | _ => exact h.elim
  | _ => exact h.elim
theorem ok_sub : OpOk G X (rI0 fun i j => .int (i - j)) gSub := by
  intro Wx σ Q W S H x y u v R rx ry h
  cases rx with
  | int i =>
    cases ry with
    | int j => exact ⟨i, j, rfl, rfl, h _ H W (.refl _ _) R (.int _)⟩
    | _ => exact h.elim
  | _ => exact h.elim
theorem ok_mul : OpOk G X (rI CMulW fun i j => .int (i * j)) gMul := by
  intro Wx σ Q W S H x y u v R rx ry h
  cases rx with
  | int i =>
    cases ry with
    | int j =>
      have h' : PostE G X.K Wx σ Q W H (if mulOk i j then some (.ok (.int (i * j)), S) else none) := h
      by_cases c : mulOk i j = true
      · rw [if_pos c] at h'
        exact ⟨i, j, rfl, rfl, by unfold mulOk at c; show i.natAbs.log2 + j.natAbs.log2 < 1000000; exact of_decide_eq_true c, h' _ H W (.refl _ _) R (.int _)⟩
      · rw [if_neg c] at h'
        exact h'.elim
    | _ => exact h.elim
  | _ => exact h.elim
theorem ok_div : OpOk G X (rI CDivW fun i j => .int (i / j)) gDiv := by
  intro Wx σ Q W S H x y u v R rx ry h
  cases rx with
  | int i =>
    cases ry with
    | int j =>
      have h' : PostE G X.K Wx σ Q W H (if divOk j then some (.ok (.int (i / j)), S) else none) := h
      by_cases c : divOk j = true
      · rw [if_pos c] at h'
        have c' := (Bool.and_eq_true _ _).mp c
        exact ⟨i, j, rfl, rfl, ⟨of_decide_eq_true c'.1, of_decide_eq_true c'.2⟩, h' _ H W (.refl _ _) R (.int _)⟩
      · rw [if_neg c] at h'
        exact h'.elim
    | _ => exact h.elim
  | _ => exact h.elim
theorem ok_mod : OpOk G X (rI (fun _ j => 0 < j) fun i j => .int (i % j)) gMod := by
  intro Wx σ Q W S H x y u v R rx ry h
  cases rx with
  | int i =>
    cases ry with
    | int j =>
      have h' : PostE G X.K Wx σ Q W H (if 0 < j then some (.ok (.int (i % j)), S) else none) := h
      by_cases c : 0 < j
      · rw [if_pos c] at h'
        exact ⟨i, j, rfl, rfl, c, h' _ H W (.refl _ _) R (.int _)⟩
      · rw [if_neg c] at h'
        exact h'.elim
    | _ => exact h.elim
  | _ => exact h.elim
def CPowB (i j : Int) : Prop := powOk i j = true
theorem op_powB : OpR X (binaryOp .Pow) (rI CPowB fun i j => .int (i ^ j.toNat)) := opI fun i j _ _ _ _ _ hc q => by
  have c' := (Bool.and_eq_true _ _).mp (show powOk i j = true from hc)
  have h0 : 0 ≤ j := of_decide_eq_true c'.1
  have h1 : (i.natAbs.log2 + 1) * j.toNat ≤ 134217728 := of_decide_eq_true c'.2
  refine pow_int h0 ?_ q
  have b : Builtin.Int.intBits i ≤ i.natAbs.log2 + 1 := by
    unfold Builtin.Int.intBits
    split <;> omega
  have b2 : Builtin.Int.intBits i * j.toNat ≤ 134217728 := Nat.le_trans (Nat.mul_le_mul_right _ b) h1
  have e : (2 : Int) ^ 27 = 134217728 := by decide
  rw [e]
  have ej : (j.toNat : Int) = j := Int.toNat_of_nonneg h0
  have b3 : ((Builtin.Int.intBits i * j.toNat : Nat) : Int) ≤ ((134217728 : Nat) : Int) := Int.ofNat_le.mpr b2
  rw [Int.natCast_mul, ej] at b3
  exact b3
theorem ok_pow : OpOk G X (rI CPowB fun i j => .int (i ^ j.toNat)) gPow := by
  intro Wx σ Q W S H x y u v R rx ry h
  cases rx with
  | int i =>
    cases ry with
    | int j =>
      have h' : PostE G X.K Wx σ Q W H (if powOk i j then some (.ok (.int (i ^ j.toNat)), S) else none) := h
      by_cases c : powOk i j = true
      · rw [if_pos c] at h'
        exact ⟨i, j, rfl, rfl, c, h' _ H W (.refl _ _) R (.int _)⟩
      · rw [if_neg c] at h'
        exact h'.elim
    | _ => exact h.elim
  | _ => exact h.elim
theorem ok_neg (Wx : WX) (σ : L2.St) (Q : VK) (W : Wd) (S : Sto) (H : Hp) (x : D) (u : V) (R : RS G X.K W S H) (rx : Rep X.K W x u) (h : PostE G X.K Wx σ Q W H (gNeg x S)) : (rU fun i => .int (-i)) u H Q := by
  cases rx with
  | int i => exact ⟨i, rfl, h _ H W (.refl _ _) R (.int _)⟩
  | _ => exact h.elim
theorem ok_cmp {p : Int → Int → Bool} : OpOkB G X (rI0 fun i j => .bl (p i j)) (gCmp p) := by
  intro Wx σ Q W S H x y u v R rx ry h
  cases rx with
  | int i =>
    cases ry with
    | int j => exact ⟨i, j, rfl, rfl, h H W (.refl _ _) R⟩
    | _ => exact h.elim
  | _ => exact h.elim
theorem ok_eqD : OpOkB G X (rEqD X.K) (gEqD false) := by
  intro Wx σ Q W S H x y u v R rx ry h
  unfold gEqD at h
  split at h
  · rename_i p q e1 e2
    split at h
    · rename_i c
      rw [Bool.and_eq_true] at c
      refine ⟨p, q, R.dpc rx e1, R.dpc ry e2, c.1, c.2, ?_⟩
      have := h H W (.refl _ _) R
      rwa [Bool.false_xor] at this
    · exact h.elim
  · exact h.elim
theorem ok_neD : OpOkB G X (rNeD X.K) (gEqD true) := by
  intro Wx σ Q W S H x y u v R rx ry h
  unfold gEqD at h
  split at h
  · rename_i p q e1 e2
    split at h
    · rename_i c
      rw [Bool.and_eq_true] at c
      refine ⟨p, q, R.dpc rx e1, R.dpc ry e2, c.1, c.2, ?_⟩
      have := h H W (.refl _ _) R
      rwa [Bool.true_xor] at this
    · exact h.elim
  · exact h.elim
/-- is None; is not None -/
def rEqX (K : PySem.W.Frag) : R2 := fun x y H Q => rEq x y H Q ∨ rEqD K x y H Q
def rNeX (K : PySem.W.Frag) : R2 := fun x y H Q => rNe x y H Q ∨ rNeD K x y H Q
theorem op_eqX (hu : X.A.units + 64 < cLine) : OpR X (compareOp .Eq) (rEqX X.K) := by
  intro pins s σ H x y u v Q I rx ry h
  rcases h with h | h
  · exact op_eq pins s σ H x y u v Q I rx ry h
  · exact op_eqD hu pins s σ H x y u v Q I rx ry h
theorem op_neX (hu : X.A.units + 64 < cLine) : OpR X (compareOp .NotEq) (rNeX X.K) := by
  intro pins s σ H x y u v Q I rx ry h
  rcases h with h | h
  · exact op_ne pins s σ H x y u v Q I rx ry h
  · exact op_neD hu pins s σ H x y u v Q I rx ry h
theorem gEq_split (neg : Bool) (x y : EV.D) (S : Sto) : (∃ a b, x = .str a ∧ y = .str b ∧ gEq neg x y S = some (.ok (xor neg (decide (a = b))), S)) ∨ gEq neg x y S = gEqD neg x y S := by
  unfold gEq
  split
  · exact .inl ⟨_, _, rfl, rfl, rfl⟩
  · exact .inr rfl
theorem ok_eq : OpOkB G X (rEqX X.K) (gEq false) := by
  intro Wx σ Q W S H x y u v R rx ry h
  rcases gEq_split false x y S with ⟨a, b, rfl, rfl, e⟩ | e
  · rw [e] at h
    cases rx
    cases ry
    have q := h H W (.refl _ _) R
    refine .inl ⟨rfl, ?_⟩
    have e2 : decide (V.str a = V.str b) = xor false (decide (a = b)) := by
      rw [Bool.false_xor]
      exact decide_eq_decide.mpr ⟨fun z => by cases z; rfl, fun z => by rw [z]⟩
    rw [e2]
    exact q
  · rw [e] at h
    exact .inr (ok_eqD Wx σ Q W S H x y u v R rx ry h)
theorem ok_ne : OpOkB G X (rNeX X.K) (gEq true) := by
  intro Wx σ Q W S H x y u v R rx ry h
  rcases gEq_split true x y S with ⟨a, b, rfl, rfl, e⟩ | e
  · rw [e] at h
    cases rx
    cases ry
    have q := h H W (.refl _ _) R
    refine .inl ⟨rfl, ?_⟩
    have e2 : (!decide (V.str a = V.str b)) = xor true (decide (a = b)) := by
      rw [Bool.true_xor]
      exact congrArg _ (decide_eq_decide.mpr ⟨fun z => by cases z; rfl, fun z => by rw [z]⟩)
    rw [e2]
    exact q
  · rw [e] at h
    exact .inr (ok_neD Wx σ Q W S H x y u v R rx ry h)
theorem rep_non {K : PySem.W.Frag} {W : Wd} {x : D} {u : V} (r : Rep K W x u) : decide (u = .non) = isN x := by
  cases r <;> rfl
theorem ok_isN : OpOkB G X (fun x y H Q => y = .non ∧ Q (.bl (decide (x = .non))) H) (gIsN false) := by
  intro Wx σ Q W S H x y u v R rx ry h
  cases ry with
  | non =>
    refine ⟨rfl, ?_⟩
    have := h H W (.refl _ _) R
    rw [Bool.false_xor] at this
    rw [rep_non rx]
    exact this
  | _ => exact h.elim
theorem ok_notN : OpOkB G X (fun x y H Q => y = .non ∧ Q (.bl (!decide (x = .non))) H) (gIsN true) := by
  intro Wx σ Q W S H x y u v R rx ry h
  cases ry with
  | non =>
    refine ⟨rfl, ?_⟩
    have := h H W (.refl _ _) R
    rw [Bool.true_xor] at this
    rw [rep_non rx]
    exact this
  | _ => exact h.elim
/-! ### places -/
def rIxS2 (K : PySem.W.Frag) : R2 := fun x y H Q => rIxL K x y H Q ∨ rIxT K x y H Q
theorem ix_2 : IxR X (rIxS2 X.K) := ix_list.or ix_tup
theorem ok_idx : OpOk G X (rIxS2 X.K) gIdx := by
  intro Wx σ Q W S H x y u v R rx ry h
  cases ry with
  | int i =>
    dsimp only [gIdx] at h
    split at h
    · rename_i xs e
      split at h
      · rename_i d e2
        obtain ⟨a, vs, rfl, hs, rs⟩ := R.seq rx e
        obtain ⟨w, h1, h2⟩ := rs.atI e2
        have q := h w H W (.refl _ _) R h2
        rcases hs with hs | hs
        · exact .inl ⟨a, vs, i, w, rfl, rfl, hs, h1, q⟩
        · exact .inr ⟨a, vs, i, w, rfl, rfl, hs, h1, q⟩
      · exact h.elim
    · exact h.elim
  | _ => exact h.elim
/-! ### lists together -/
/-- the items of a list that is frozen or a cell -/
def lstD (S : Sto) : D → Option (List D)
  | .lst xs => some xs
  | .cell n => match S[n]? with
    | some (some (.lst xs)) => some xs
    | _ => none
  | _ => none
theorem _root_.EV.RS.lst {K : PySem.W.Frag} {W : Wd} {S : Sto} {H : Hp} (R : RS G K W S H) {d : D} {u : V} {xs : List D} (r : Rep K W d u) (e : lstD S d = some xs) : ∃ a vs, u = .ref a ∧ H a = some (.lst vs) ∧ Reps K W xs vs := by
  cases r with
  | lst h r => cases e; exact ⟨_, _, rfl, R.fr _ _ h, r⟩
  | @cell a n h =>
    dsimp only [lstD] at e
    split at e
    · rename_i ds q
      cases e
      obtain ⟨a', h1, _, vs, h3, h4⟩ := R.cl n _ q
      rw [h] at h1
      cases h1
      exact ⟨_, _, rfl, h3, h4⟩
    · cases e
  | _ => cases e
def gCat (x y : D) (S : Sto) : Res (List D) := match lstD S x, lstD S y with
  | some xs, some ys => if xs.length + ys.length ≤ cap then some (.ok (xs ++ ys), S) else none
  | _, _ => none
theorem ok_cat : OpOkF G X rCat gCat := by
  intro Wx σ Q W S H x y u v R rx ry h
  unfold gCat at h
  split at h
  · rename_i xs ys e1 e2
    split at h
    · rename_i c
      obtain ⟨a, vs, rfl, ha, rs⟩ := R.lst rx e1
      obtain ⟨b, us, rfl, hb, rt⟩ := R.lst ry e2
      refine ⟨a, b, vs, us, rfl, rfl, ha, hb, Nat.le_trans (by rw [← rs.length, ← rt.length]; exact c) cap_le, fun p hp => ?_⟩
      obtain ⟨T, R2, L⟩ := R.new hp (.lst (vs ++ us))
      exact h p _ _ W T R2 hp L upd_same (rs.append rt)
    · exact h.elim
  · exact h.elim
end

/-! ### calls of built-ins -/
section
variable (G : Sig) (X : Cx)
def CallOk (r : List V → Hp → VK → Prop) (g : List D → Sto → Res D) : Prop := ∀ (Wx : WX) (σ : L2.St) (Q : VK) (W : Wd) (S : Sto) (H : Hp) (ds : List D) (vs : List V),
  RS G X.K W S H → Reps X.K W ds vs → PostE G X.K Wx σ Q W H (g ds S) → r vs H Q
def CallOkF (r : List V → Hp → VK → Prop) (g : List D → Sto → Res (List D)) : Prop := ∀ (Wx : WX) (σ : L2.St) (Q : VK) (W : Wd) (S : Sto) (H : Hp) (ds : List D) (vs : List V),
  RS G X.K W S H → Reps X.K W ds vs → PostF G X.K Wx σ Q W H (g ds S) → r vs H Q
end
def xCallB (g : List D → Sto → Res D) (fr : EA) : EX := fun ρ S => bnd (fr ρ S) fun ds S1 => g ds S1
def xCallF (g : List D → Sto → Res (List D)) (fr : EA) : EA := fun ρ S => bnd (fr ρ S) fun ds S1 => g ds S1
section
variable {G : Sig} {X : Cx} {x : Str} {p pos : Pos} {e : Expr} {es : List Expr} {fr : EA} {id T : String} {r : List V → Hp → VK → Prop}
theorem ge_callB {g : List D → Sto → Res D} (hc : CallR X (.builtin id) r) (hk : CallOk G X r g) (hg : Gl X x) (hm : X.mg x = none) (hv : bootBuiltins x = some (.builtin id)) (ha : GA G X (e :: es) fr) (hn : x ≠ "__name__" := by decide) (hdb : (x == ("__debug__" : Str)) = false := by decide)
    (he : starEach (e :: es) X.env = (false, eval e X.env) :: starEach es X.env := by rfl) (hpl : (backTo pos (starEach es X.env)).any (·.1) = false := by rfl) : GE G X (.Call (.Name x p) (e :: es) [] pos) (xCallB g fr) := by
  intro Wx tk
  refine pe_imp (pe_callB hc hg hm hv (ha Wx tk) hn hdb he hpl) ?_
  rintro σ H Q ⟨ρ, S, W, E, R, h⟩
  exact tA_of pkE E R h fun ds S1 vs H1 W1 T1 E1 R1 r1 h1 => hk _ _ _ _ _ _ _ _ R1 r1 h1
theorem ge_callTy {g : List D → Sto → Res D} (hc : CallR X (.type T) r) (hk : CallOk G X r g) (hg : Gl X x) (hm : X.mg x = none) (hv : bootBuiltins x = some (.type T)) (ha : GA G X (e :: es) fr) (hn : x ≠ "__name__" := by decide) (hdb : (x == ("__debug__" : Str)) = false := by decide)
    (he : starEach (e :: es) X.env = (false, eval e X.env) :: starEach es X.env := by rfl) (hpl : (backTo pos (starEach es X.env)).any (·.1) = false := by rfl) : GE G X (.Call (.Name x p) (e :: es) [] pos) (xCallB g fr) := by
  intro Wx tk
  refine pe_imp (pe_callTy hc hg hm hv (ha Wx tk) hn hdb he hpl) ?_
  rintro σ H Q ⟨ρ, S, W, E, R, h⟩
  exact tA_of pkE E R h fun ds S1 vs H1 W1 T1 E1 R1 r1 h1 => hk _ _ _ _ _ _ _ _ R1 r1 h1
theorem gf_callTy {g : List D → Sto → Res (List D)} (hc : CallR X (.type T) r) (hk : CallOkF G X r g) (hg : Gl X x) (hm : X.mg x = none) (hv : bootBuiltins x = some (.type T)) (ha : GA G X (e :: es) fr) (hn : x ≠ "__name__" := by decide) (hdb : (x == ("__debug__" : Str)) = false := by decide)
    (he : starEach (e :: es) X.env = (false, eval e X.env) :: starEach es X.env := by rfl) (hpl : (backTo pos (starEach es X.env)).any (·.1) = false := by rfl) : GF G X (.Call (.Name x p) (e :: es) [] pos) (xCallF g fr) := by
  intro Wx tk
  refine pe_imp (pe_callTy hc hg hm hv (ha Wx tk) hn hdb he hpl) ?_
  rintro σ H Q ⟨ρ, S, W, E, R, h⟩
  exact tA_of pkF E R h fun ds S1 vs H1 W1 T1 E1 R1 r1 h1 => hk _ _ _ _ _ _ _ _ R1 r1 (pkF.later _ _ _ _ _ _ (.refl _ _) R1 h1)
end
def gAbs : List D → Sto → Res D
  | [.int i], S => some (.ok (.int (if i < 0 then -i else i)), S)
  | _, _ => none
def gMax2 : List D → Sto → Res D
  | [.int i, .int j], S => some (.ok (.int (if j > i then j else i)), S)
  | _, _ => none
def gMin2 : List D → Sto → Res D
  | [.int i, .int j], S => some (.ok (.int (if j < i then j else i)), S)
  | _, _ => none
def gInt : List D → Sto → Res D
  | [.int i], S => some (.ok (.int i), S)
  | [.bl k], S => some (.ok (.int (if k then 1 else 0)), S)
  | _, _ => none
def gLen : List D → Sto → Res D
  | [x], S => match seqD S x with
    | some xs => some (.ok (.int xs.length), S)
    | none => none
  | _, _ => none
def toInts : List D → Option (List Int)
  | [] => some []
  | .int i :: xs => (toInts xs).map (i :: ·)
  | _ :: _ => none
def toBls : List D → Option (List Bool)
  | [] => some []
  | .bl k :: xs => (toBls xs).map (k :: ·)
  | _ :: _ => none
theorem toInts_eq : ∀ {xs : List D} {ns : List Int}, toInts xs = some ns → xs = ns.map .int
  | [], ns, h => by cases h; rfl
  | .int i :: xs, ns, h => by
    rw [toInts] at h
    cases q : toInts xs with
    | none => rw [q] at h; cases h
    | some ms =>
      rw [q] at h; cases h
      rw [toInts_eq q]; rfl
  | .non :: _, _, h => by cases h
  | .bl _ :: _, _, h => by cases h
  | .str _ :: _, _, h => by cases h
  | .tup _ :: _, _, h => by cases h
  | .lst _ :: _, _, h => by cases h
  | .scr _ :: _, _, h => by cases h
  | .cell _ :: _, _, h => by cases h
  | .obj _ _ :: _, _, h => by cases h
@[simp] theorem toInts_map (ns : List Int) : toInts (ns.map .int) = some ns := by
  induction ns with
  | nil => rfl
  | cons n ns ih =>
    rw [List.map_cons, toInts, ih]
    rfl
theorem toBls_eq : ∀ {xs : List D} {ns : List Bool}, toBls xs = some ns → xs = ns.map .bl
  | [], ns, h => by cases h; rfl
  | .bl i :: xs, ns, h => by
    rw [toBls] at h
    cases q : toBls xs with
    | none => rw [q] at h; cases h
    | some ms =>
      rw [q] at h; cases h
      rw [toBls_eq q]; rfl
  | .non :: _, _, h => by cases h
  | .int _ :: _, _, h => by cases h
  | .str _ :: _, _, h => by cases h
  | .tup _ :: _, _, h => by cases h
  | .lst _ :: _, _, h => by cases h
  | .scr _ :: _, _, h => by cases h
  | .cell _ :: _, _, h => by cases h
  | .obj _ _ :: _, _, h => by cases h
@[simp] theorem toBls_map (ns : List Bool) : toBls (ns.map .bl) = some ns := by
  induction ns with
  | nil => rfl
  | cons n ns ih =>
    rw [List.map_cons, toBls, ih]
    rfl
/-- lists of ints, of truth values -/
def intsD (S : Sto) (x : D) : Option (List Int) := (lstD S x).bind toInts
def gSum : List D → Sto → Res D
  | [x], S => match intsD S x with
    | some ns => some (.ok (.int ns.sum), S)
    | none => none
  | _, _ => none
def gMax1 : List D → Sto → Res D
  | [x], S => match (intsD S x).bind List.max? with
    | some m => some (.ok (.int m), S)
    | none => none
  | _, _ => none
def gMin1 : List D → Sto → Res D
  | [x], S => match (intsD S x).bind List.min? with
    | some m => some (.ok (.int m), S)
    | none => none
  | _, _ => none
def gAll : List D → Sto → Res D
  | [x], S => match (lstD S x).bind toBls with
    | some bs => some (.ok (.bl (bs.all id)), S)
    | none => none
  | _, _ => none
def gList : List D → Sto → Res (List D)
  | [x], S => match seqD S x with
    | some xs => some (.ok xs, S)
    | none => none
  | _, _ => none
def gRepr : List D → Sto → Res D
  | [x], S => match toPc S x with
    | some p => if p.showable && decide (p.depth ≤ 64) && decide (p.shown.length ≤ cap) && !p.hasDict then some (.ok (.str p.shown), S) else none
    | none => none
  | _, _ => none
section
variable {G : Sig} {X : Cx}
theorem reps1 {K : PySem.W.Frag} {W : Wd} {d : D} {vs : List V} (r : Reps K W [d] vs) : ∃ v, vs = [v] ∧ Rep K W d v := by
  cases r with
  | cons h r =>
    cases r
    exact ⟨_, rfl, h⟩
theorem reps2 {K : PySem.W.Frag} {W : Wd} {d e : D} {vs : List V} (r : Reps K W [d, e] vs) : ∃ v u, vs = [v, u] ∧ Rep K W d v ∧ Rep K W e u := by
  cases r with
  | cons h r =>
    obtain ⟨u, rfl, h2⟩ := reps1 r
    exact ⟨_, _, rfl, h, h2⟩
theorem k_abs : CallOk G X (fun xs H Q => ∃ i, xs = [.int i] ∧ Q (.int (if i < 0 then -i else i)) H) gAbs := by
  intro Wx σ Q W S H ds vs R r h
  unfold gAbs at h
  split at h
  · obtain ⟨v, rfl, h1⟩ := reps1 r
    cases h1
    exact ⟨_, rfl, h _ H W (.refl _ _) R (.int _)⟩
  · exact h.elim
theorem k_max2 : CallOk G X (fun xs H Q => ∃ i j, xs = [.int i, .int j] ∧ Q (.int (if j > i then j else i)) H) gMax2 := by
  intro Wx σ Q W S H ds vs R r h
  unfold gMax2 at h
  split at h
  · obtain ⟨v, u, rfl, h1, h2⟩ := reps2 r
    cases h1
    cases h2
    exact ⟨_, _, rfl, h _ H W (.refl _ _) R (.int _)⟩
  · exact h.elim
theorem k_min2 : CallOk G X (fun xs H Q => ∃ i j, xs = [.int i, .int j] ∧ Q (.int (if j < i then j else i)) H) gMin2 := by
  intro Wx σ Q W S H ds vs R r h
  unfold gMin2 at h
  split at h
  · obtain ⟨v, u, rfl, h1, h2⟩ := reps2 r
    cases h1
    cases h2
    exact ⟨_, _, rfl, h _ H W (.refl _ _) R (.int _)⟩
  · exact h.elim
theorem k_int : CallOk G X (fun xs H Q => (∃ i, xs = [.int i] ∧ Q (.int i) H) ∨ ∃ k, xs = [.bl k] ∧ Q (.int (if k then 1 else 0)) H) gInt := by
  intro Wx σ Q W S H ds vs R r h
  unfold gInt at h
  split at h
  · obtain ⟨v, rfl, h1⟩ := reps1 r
    cases h1
    exact .inl ⟨_, rfl, h _ H W (.refl _ _) R (.int _)⟩
  · obtain ⟨v, rfl, h1⟩ := reps1 r
    cases h1
    exact .inr ⟨_, rfl, h _ H W (.refl _ _) R (.int _)⟩
  · exact h.elim
theorem k_len : CallOk G X (fun xs H Q => ∃ p ys, xs = [.ref p] ∧ (SqL X.K H p ys ∨ SqT X.K H p ys) ∧ Q (.int ys.length) H) gLen := by
  intro Wx σ Q W S H ds vs R r h
  unfold gLen at h
  split at h
  · split at h
    · rename_i xs e
      obtain ⟨v, rfl, h1⟩ := reps1 r
      obtain ⟨a, us, rfl, hs, rs⟩ := R.seq h1 e
      refine ⟨a, us, rfl, hs, ?_⟩
      have := h _ H W (.refl _ _) R (.int _)
      rw [rs.length] at this
      exact this
    · exact h.elim
  · exact h.elim
theorem _root_.EV.RS.ints {K : PySem.W.Frag} {W : Wd} {S : Sto} {H : Hp} (R : RS G K W S H) {d : D} {u : V} {ns : List Int} (r : Rep K W d u) (e : intsD S d = some ns) : ∃ a, u = .ref a ∧ H a = some (.lst (ns.map V.int)) := by
  unfold intsD at e
  cases q : lstD S d with
  | none => rw [q] at e; cases e
  | some xs =>
    rw [q] at e
    obtain ⟨a, vs, rfl, ha, rs⟩ := R.lst r q
    have e2 := toInts_eq (show toInts xs = some ns from e)
    rw [e2] at rs
    rw [rs.of_ints] at ha
    exact ⟨a, rfl, ha⟩
theorem k_sum : CallOk G X (rSum X.K) gSum := by
  intro Wx σ Q W S H ds vs R r h
  unfold gSum at h
  split at h
  · split at h
    · rename_i ns e
      obtain ⟨v, rfl, h1⟩ := reps1 r
      obtain ⟨a, rfl, ha⟩ := R.ints h1 e
      exact ⟨a, ns, rfl, .of ha, h _ H W (.refl _ _) R (.int _)⟩
    · exact h.elim
  · exact h.elim
theorem k_max1 : CallOk G X (rMax X.K) gMax1 := by
  intro Wx σ Q W S H ds vs R r h
  unfold gMax1 at h
  split at h
  · split at h
    · rename_i m e
      obtain ⟨v, rfl, h1⟩ := reps1 r
      rw [Option.bind_eq_some_iff] at e
      obtain ⟨ns, e1, e2⟩ := e
      obtain ⟨a, rfl, ha⟩ := R.ints h1 e1
      rw [List.max?_eq_some_iff] at e2
      refine ⟨a, ns, rfl, .of ha, List.length_pos_of_mem e2.1, fun m' hm hle => ?_⟩
      have : m' = m := Int.le_antisymm (e2.2 m' hm) (hle m e2.1)
      rw [this]
      exact h _ H W (.refl _ _) R (.int _)
    · exact h.elim
  · exact h.elim
theorem k_min1 : CallOk G X (rMin X.K) gMin1 := by
  intro Wx σ Q W S H ds vs R r h
  unfold gMin1 at h
  split at h
  · split at h
    · rename_i m e
      obtain ⟨v, rfl, h1⟩ := reps1 r
      rw [Option.bind_eq_some_iff] at e
      obtain ⟨ns, e1, e2⟩ := e
      obtain ⟨a, rfl, ha⟩ := R.ints h1 e1
      rw [List.min?_eq_some_iff] at e2
      refine ⟨a, ns, rfl, .of ha, List.length_pos_of_mem e2.1, fun m' hm hle => ?_⟩
      have : m' = m := Int.le_antisymm (hle m e2.1) (e2.2 m' hm)
      rw [this]
      exact h _ H W (.refl _ _) R (.int _)
    · exact h.elim
  · exact h.elim
theorem Reps.of_bls {K : PySem.W.Frag} {W : Wd} : ∀ {ns : List Bool} {vs : List V}, Reps K W (ns.map D.bl) vs → vs = ns.map V.bl
  | [], _, r => by cases r; rfl
  | n :: ns, _, r => by
    cases r with
    | cons h r =>
      cases h
      rw [Reps.of_bls r]
      rfl
theorem k_all : CallOk G X (rAll X.K) gAll := by
  intro Wx σ Q W S H ds vs R r h
  unfold gAll at h
  split at h
  · split at h
    · rename_i bs e
      obtain ⟨v, rfl, h1⟩ := reps1 r
      rw [Option.bind_eq_some_iff] at e
      obtain ⟨xs, e1, e2⟩ := e
      obtain ⟨a, us, rfl, ha, rs⟩ := R.lst h1 e1
      rw [toBls_eq e2] at rs
      rw [Reps.of_bls rs] at ha
      exact ⟨a, bs, rfl, .of ha, h _ H W (.refl _ _) R (.bl _)⟩
    · exact h.elim
  · exact h.elim
theorem k_list : CallOkF G X (fun xs H Q => ∃ p ys, xs = [.ref p] ∧ (SqL X.K H p ys ∨ SqT X.K H p ys) ∧ ∀ l, H l = none → Q (.ref l) (upd H l (.lst ys))) gList := by
  intro Wx σ Q W S H ds vs R r h
  unfold gList at h
  split at h
  · split at h
    · rename_i xs e
      obtain ⟨v, rfl, h1⟩ := reps1 r
      obtain ⟨a, us, rfl, hs, rs⟩ := R.seq h1 e
      refine ⟨a, us, rfl, hs, fun p hp => ?_⟩
      obtain ⟨T, R2, L⟩ := R.new hp (.lst us)
      exact h p _ _ W T R2 hp L upd_same rs
    · exact h.elim
  · exact h.elim
/-! ### repr -/
/-- .. of a list, a tuple -/
def gReprR : List D → Sto → Res D
  | [.tup xs], S => gRepr [.tup xs] S
  | [.lst xs], S => gRepr [.lst xs] S
  | [.cell n], S => gRepr [.cell n] S
  | _, _ => none
def rRepr (K : PySem.W.Frag) : List V → Hp → VK → Prop := fun vs H Q => ∃ v p, vs = [v] ∧ Dp K H v p ∧ p.showable = true ∧ p.hasDict = false ∧ p.depth ≤ 64 ∧ p.shown.length ≤ sizeLine ∧ Q (.str p.shown) H
theorem call_reprD (hg : X.A.guards = some []) (hu : X.A.units + 100 < cLine) : CallR X (.builtin "repr") (fun vs H Q => (∃ a, vs = [.ref a]) ∧ rRepr X.K vs H Q) := by
  rintro pins s σ H xs us Q I r ⟨⟨a, e⟩, v, p, rfl, hd, hs, hn, hdp, hz, q⟩
  cases e
  obtain ⟨u, rfl, rx⟩ := vals1 r
  cases rx
  obtain ⟨as, rd⟩ := Dp.reads I p _ _ hd rfl
  exact repr_of_reads' rd hs (fun z => by rw [hn] at z; cases z) hg (by omega) (fun _ _ h => h) (fun h' u tk k => ⟨.str _, H, I.kept k, ⟨_, rfl⟩, q⟩) hz
theorem k_repr : CallOk G X (fun vs H Q => (∃ a, vs = [.ref a]) ∧ rRepr X.K vs H Q) gReprR := by
  intro Wx σ Q W S H ds vs R r h
  have go : ∀ d v, Rep X.K W d v → PostE G X.K Wx σ Q W H (gRepr [d] S) → rRepr X.K [v] H Q := fun d v r1 h => by
    unfold gRepr at h
    dsimp only at h
    split at h
    · rename_i p e
      split at h
      · rename_i c
        simp only [Bool.and_eq_true, decide_eq_true_eq, Bool.not_eq_true'] at c
        exact ⟨v, p, rfl, R.dpc r1 e, c.1.1.1, c.2, c.1.1.2, Nat.le_trans c.1.2 cap_le, h _ H W (.refl _ _) R (.str _)⟩
      · exact h.elim
    · exact h.elim
  unfold gReprR at h
  split at h
  · obtain ⟨v, rfl, h1⟩ := reps1 r
    refine ⟨?_, go _ _ h1 h⟩
    cases h1
    exact ⟨_, rfl⟩
  · obtain ⟨v, rfl, h1⟩ := reps1 r
    refine ⟨?_, go _ _ h1 h⟩
    cases h1
    exact ⟨_, rfl⟩
  · obtain ⟨v, rfl, h1⟩ := reps1 r
    refine ⟨?_, go _ _ h1 h⟩
    cases h1
    exact ⟨_, rfl⟩
  · exact h.elim
end
end EV

/-! E4: statements, loops, comprehensions. -/
namespace EV
open PySem PySem.Spec PyProof.Rows L2

inductive Out where
  | nx (ρ : Frm) (S : Sto) | rt (d : D) (S : Sto) | bk (ρ : Frm) (S : Sto) | ct (ρ : Frm) (S : Sto) | er (e : Er) (ρ : Frm) (S : Sto)
abbrev ES := Frm → Sto → Option Out
def bndS {α : Type} (r : Res α) (ρ : Frm) (k : α → Sto → Option Out) : Option Out := match r with
  | none => none
  | some (.error e, S) => some (.er e ρ S)
  | some (.ok a, S) => k a S
@[simp] theorem bndS_none {α : Type} (ρ : Frm) (k : α → Sto → Option Out) : bndS none ρ k = none := rfl
@[simp] theorem bndS_ok {α : Type} (a : α) (S : Sto) (ρ : Frm) (k : α → Sto → Option Out) : bndS (some (.ok a, S)) ρ k = k a S := rfl
@[simp] theorem bndS_er {α : Type} (e : Er) (S : Sto) (ρ : Frm) (k : α → Sto → Option Out) : bndS (some (.error e, S)) ρ k = some (.er e ρ S) := rfl
section
variable (G : Sig) (K : PySem.W.Frag)
def PostS (Wx : WX) (D : Ends) (W : Wd) (H : Hp) : Option Out → Prop
  | none => False
  | some (.nx ρ S) => ∀ σ' H' W', Stp W H W' H' → RE K W' ρ σ' → RS G K W' S H' → D.nx σ' H'
  | some (.bk ρ S) => ∀ σ' H' W', Stp W H W' H' → RE K W' ρ σ' → RS G K W' S H' → D.bk σ' H'
  | some (.ct ρ S) => ∀ σ' H' W', Stp W H W' H' → RE K W' ρ σ' → RS G K W' S H' → D.ct σ' H'
  | some (.rt d S) => ∀ v H' W', Stp W H W' H' → RS G K W' S H' → Rep K W' d v → D.rt v H'
  | some (.er e ρ S) => ∀ cls dx σ' H' W', Stp W H W' H' → RE K W' ρ σ' → RS G K W' S H' → ErIs G K W' H' e cls dx → Wx cls dx σ' H'
def sS (Wx : WX) (g : ES) : TS := fun D σ H => ∃ ρ S W, RE K W ρ σ ∧ RS G K W S H ∧ PostS G K Wx D W H (g ρ S)
end
section
variable (G : Sig) (X : Cx)
def GS (st : Stmt) (g : ES) : Prop := ∀ Wx, Takes X Wx → PS X st (sS G X.K Wx g)
def GB (st : List Stmt) (g : ES) : Prop := ∀ Wx, Takes X Wx → PSs X st (sS G X.K Wx g)
end
section
variable {G : Sig} {K : PySem.W.Frag} {Wx : WX} {D : Ends} {σ : L2.St} {W W1 : Wd} {H H1 : Hp} {S S1 : Sto} {ρ : Frm}
theorem PostS.later {o : Option Out} (T : Stp W H W1 H1) (h : PostS G K Wx D W H o) : PostS G K Wx D W1 H1 o := by
  match o, h with
  | some (.nx ρ S), h => exact fun σ' H' W' T' => h σ' H' W' (T.trans T')
  | some (.bk ρ S), h => exact fun σ' H' W' T' => h σ' H' W' (T.trans T')
  | some (.ct ρ S), h => exact fun σ' H' W' T' => h σ' H' W' (T.trans T')
  | some (.rt d S), h => exact fun v H' W' T' => h v H' W' (T.trans T')
  | some (.er e ρ S), h => exact fun cls dx σ' H' W' T' => h cls dx σ' H' W' (T.trans T')
variable {α : Type}
theorem tE_ofS {f : EX} {k : EV.D → Sto → Option Out} {Q' : VK} (E : RE K W ρ σ) (R : RS G K W S H) (h : PostS G K Wx D W H (bndS (f ρ S) ρ k))
    (c : ∀ d S' v H' W', Stp W H W' H' → RE K W' ρ σ → RS G K W' S' H' → Rep K W' d v → PostS G K Wx D W' H' (k d S') → Q' v H') : tE G K Wx f σ H Q' := by
  refine ⟨ρ, S, W, E, R, ?_⟩
  generalize f ρ S = r at h ⊢
  match r, h with
  | none, h => exact h.elim
  | some (.ok d, S'), h => exact fun v H' W' T R' r => c d S' v H' W' T (E.mono T.le) R' r (PostS.later T h)
  | some (.error e, S'), h => exact fun cls dx H' W' T R' er => h cls dx σ H' W' T (E.mono T.le) R' er
theorem tT_ofS {f : ET} {k : Bool → Sto → Option Out} {Q' : Bool → Hp → Prop} (E : RE K W ρ σ) (R : RS G K W S H) (h : PostS G K Wx D W H (bndS (f ρ S) ρ k))
    (c : ∀ b S' H' W', Stp W H W' H' → RE K W' ρ σ → RS G K W' S' H' → PostS G K Wx D W' H' (k b S') → Q' b H') : tT G K Wx f σ H Q' := by
  refine ⟨ρ, S, W, E, R, ?_⟩
  generalize f ρ S = r at h ⊢
  match r, h with
  | none, h => exact h.elim
  | some (.ok d, S'), h => exact fun H' W' T R' => c d S' H' W' T (E.mono T.le) R' (PostS.later T h)
  | some (.error e, S'), h => exact fun cls dx H' W' T R' er => h cls dx σ H' W' T (E.mono T.le) R' er
theorem tA_ofS {f : EA} {k : List EV.D → Sto → Option Out} {Q' : List V → Hp → Prop} (E : RE K W ρ σ) (R : RS G K W S H) (h : PostS G K Wx D W H (bndS (f ρ S) ρ k))
    (c : ∀ ds S' vs H' W', Stp W H W' H' → RE K W' ρ σ → RS G K W' S' H' → Reps K W' ds vs → PostS G K Wx D W' H' (k ds S') → Q' vs H') : tA G K Wx f σ H Q' := by
  refine ⟨ρ, S, W, E, R, ?_⟩
  generalize f ρ S = r at h ⊢
  match r, h with
  | none, h => exact h.elim
  | some (.ok d, S'), h => exact fun v H' W' T R' r => c d S' v H' W' T (E.mono T.le) R' r (PostS.later T h)
  | some (.error e, S'), h => exact fun cls dx H' W' T R' er => h cls dx σ H' W' T (E.mono T.le) R' er
end

/-- what every context bears -/
structure Ctx (X : Cx) : Prop where
  calm : X.calm = true
  pass : PassesOwn (model X.prog X.w) X.A X.env X.xe
  grd : X.A.guards = some []
  nd : X.N.Nodup
  un : X.A.units + 150 < cLine

section
variable {G : Sig} {X : Cx} {st : Stmt} {rest : List Stmt} {g u : ES} {e c : Expr} {f : EX} {ft : ET} {pos : Pos}
theorem ps_imp {t t' : TS} (h : PS X st t) (i : ∀ D σ H, t' D σ H → t D σ H) : PS X st t' := ⟨fun pins s σ H D I q => h.run pins s σ H D I (i _ _ _ q)⟩
theorem pss_imp {t t' : TS} (h : PSs X rest t) (i : ∀ D σ H, t' D σ H → t D σ H) : PSs X rest t' := ⟨fun pins s σ H D I q => h.run pins s σ H D I (i _ _ _ q)⟩
def xNx : ES := fun ρ S => some (.nx ρ S)
def xSeq (g u : ES) : ES := fun ρ S => match g ρ S with
  | some (.nx ρ1 S1) => u ρ1 S1
  | o => o
theorem gb_nil : GB G X [] xNx := by
  intro Wx tk
  refine pss_imp pss_nil ?_
  rintro D σ H ⟨ρ, S, W, E, R, h⟩
  exact h σ H W (.refl _ _) E R
theorem gb_cons (h1 : GS G X st g) (h2 : GB G X rest u) : GB G X (st :: rest) (xSeq g u) := by
  intro Wx tk
  refine pss_imp (pss_cons (h1 Wx tk) (h2 Wx tk)) ?_
  rintro D σ H ⟨ρ, S, W, E, R, h⟩
  refine ⟨ρ, S, W, E, R, ?_⟩
  unfold xSeq at h
  generalize g ρ S = o at h ⊢
  match o, h with
  | none, h => exact h.elim
  | some (.nx ρ1 S1), h => exact fun σ' H' W' T E' R' => ⟨ρ1, S1, W', E', R', PostS.later T h⟩
  | some (.bk ρ1 S1), h => exact h
  | some (.ct ρ1 S1), h => exact h
  | some (.rt d S1), h => exact h
  | some (.er e ρ1 S1), h => exact h
theorem gb_one (h1 : GS G X st g) : GB G X [st] g := by
  intro Wx tk
  exact pss_one (h1 Wx tk)
theorem gs_pass : GS G X (.Pass pos) xNx := by
  intro Wx tk
  refine ps_imp ps_pass ?_
  rintro D σ H ⟨ρ, S, W, E, R, h⟩
  exact h σ H W (.refl _ _) E R
theorem gs_break : GS G X (.Break pos) (fun ρ S => some (.bk ρ S)) := by
  intro Wx tk
  refine ps_imp ps_break ?_
  rintro D σ H ⟨ρ, S, W, E, R, h⟩
  exact h σ H W (.refl _ _) E R
theorem gs_cont : GS G X (.Continue pos) (fun ρ S => some (.ct ρ S)) := by
  intro Wx tk
  refine ps_imp ps_continue ?_
  rintro D σ H ⟨ρ, S, W, E, R, h⟩
  exact h σ H W (.refl _ _) E R
/-- never come to -/
theorem gs_never : GS G X st (fun _ _ => none) := by
  intro Wx tk
  refine ps_imp ps_never ?_
  rintro D σ H ⟨ρ, S, W, E, R, h⟩
  exact h
theorem gb_never : GB G X rest (fun _ _ => none) := by
  intro Wx tk
  refine pss_imp pss_never ?_
  rintro D σ H ⟨ρ, S, W, E, R, h⟩
  exact h
def xExpr (f : EX) : ES := fun ρ S => bndS (f ρ S) ρ fun _ S1 => some (.nx ρ S1)
theorem gs_expr (h : GE G X e f) (hs : swapsWith e none pos.line X.env = pure false := by rfl) : GS G X (.Expr e pos) (xExpr f) := by
  intro Wx tk
  refine ps_imp (ps_expr (h Wx tk) hs) ?_
  rintro D σ H ⟨ρ, S, W, E, R, h⟩
  exact tE_ofS E R h fun d S1 v H1 W1 T1 E1 R1 r1 h1 => h1 σ H1 W1 (.refl _ _) E1 R1
def xRet (f : EX) : ES := fun ρ S => bndS (f ρ S) ρ fun d S1 => some (.rt d S1)
theorem gs_ret (h : GE G X e f) : GS G X (.Return (some e) pos) (xRet f) := by
  intro Wx tk
  refine ps_imp (ps_ret (h Wx tk)) ?_
  rintro D σ H ⟨ρ, S, W, E, R, h⟩
  exact tE_ofS E R h fun d S1 v H1 W1 T1 E1 R1 r1 h1 => h1 v H1 W1 (.refl _ _) R1 r1
theorem gs_retN : GS G X (.Return none pos) (fun _ S => some (.rt .non S)) := by
  intro Wx tk
  refine ps_imp ps_retN ?_
  rintro D σ H ⟨ρ, S, W, E, R, h⟩
  exact h .non H W (.refl _ _) R .non
def xIfS (t : ET) (g u : ES) : ES := fun ρ S => bndS (t ρ S) ρ fun b S1 => if b then g ρ S1 else u ρ S1
theorem gs_if {a b : List Stmt} (hc : GT G X c ft) (ha : GB G X a g) (hb : GB G X b u) : GS G X (.If c a b pos) (xIfS ft g u) := by
  intro Wx tk
  refine ps_imp (ps_if (hc Wx tk) (ha Wx tk) (hb Wx tk)) ?_
  rintro D σ H ⟨ρ, S, W, E, R, h⟩
  refine tT_ofS E R h fun k S1 H1 W1 T1 E1 R1 h1 => ?_
  cases k with
  | true => exact iteT ⟨ρ, S1, W1, E1, R1, h1⟩
  | false => exact iteF ⟨ρ, S1, W1, E1, R1, h1⟩
def xSet (i : Nat) (f : EX) : ES := fun ρ S => bndS (f ρ S) ρ fun d S1 => some (.nx (ρ.set i (some d)) S1)
theorem gs_set {i : Nat} {x : Str} {pos' : Pos} (C : Ctx X) (hi : X.N[i]? = some x) (hx : Loc X.env.scope x) (he : GE G X e f) (hs : swapsWith e (some (.Name x pos')) pos.line X.env = pure false := by rfl)
    (hf : X.fn x = true ∨ X.env.scope.names.lookup x = some .local := by first | exact .inl rfl | exact .inr rfl | assumption) : GS G X (.Assign [.Name x pos'] e pos) (xSet i f) := by
  intro Wx tk
  refine ps_imp (ps_set C.nd hi hx (he Wx tk) hs hf) ?_
  rintro D σ H ⟨ρ, S, W, E, R, h⟩
  exact tE_ofS E R h fun d S1 v H1 W1 T1 E1 R1 r1 h1 => h1 _ H1 W1 (.refl _ _) (E1.set r1 i) R1
/-- a name op= e -/
def xAug (i : Nat) (g : EV.D → EV.D → Sto → Res EV.D) (f : EX) : ES := fun ρ S => match ρ[i]? with
  | some (some x) => bndS (bnd (f ρ S) fun y S1 => g x y S1) ρ fun d S1 => some (.nx (ρ.set i (some d)) S1)
  | _ => none
theorem gs_augI {i : Nat} {x : Str} {pos' : Pos} {op : Operator} {q : Int → Int → Int} {g : EV.D → EV.D → Sto → Res EV.D} (C : Ctx X) (hi : X.N[i]? = some x) (hx : Loc X.env.scope x) (he : GE G X e f) (hp : PIp X op (ipI q))
    (hg : OpOk G X (rI0 fun i j => .int (q i j)) g)
    (hf : X.fn x = true ∨ X.env.scope.names.lookup x = some .local := by first | exact .inl rfl | exact .inr rfl | assumption) : GS G X (.AugAssign (.Name x pos') op e pos) (xAug i g f) := by
  intro Wx tk
  refine ps_imp (ps_aug C.nd hi hx (he Wx tk) hp hf) ?_
  rintro D σ H ⟨ρ, S, W, E, R, h⟩
  unfold xAug at h
  split at h
  · rename_i x0 ex
    obtain ⟨v0, h1, h2⟩ := E.2 i x0 ex
    refine ⟨v0, h1, ?_⟩
    have h' : PostS G X.K Wx D W H (bndS (f ρ S) ρ fun y S1 => bndS (g x0 y S1) ρ fun d S1 => some (.nx (ρ.set i (some d)) S1)) := by
      generalize f ρ S = r at h ⊢
      match r, h with
      | none, h => exact h.elim
      | some (.ok d, S'), h => exact h
      | some (.error e, S'), h => exact h
    refine tE_ofS E R h' fun y S1 v H1 W1 T1 E1 R1 r1 hh => ?_
    have q1 : PostE G X.K Wx σ (fun z H2 => D.nx (σ.set i (some z)) H2) W1 H1 (g x0 y S1) := by
      generalize g x0 y S1 = r at hh ⊢
      match r, hh with
      | none, hh => exact hh.elim
      | some (.ok d, S'), hh => exact fun v H' W' T R' r => hh _ H' W' T ((E1.mono T.le).set r i) R'
      | some (.error e, S'), hh => exact fun cls dx H' W' T R' er => hh cls dx σ H' W' T (E1.mono T.le) R' er
    exact hg Wx σ _ W1 S1 H1 x0 y v0 v R1 (h2.mono T1.le) r1 q1
  · exact h.elim

/-! ### targets -/
def Chg (is : List Nat) (σ σ' : L2.St) : Prop := σ'.length = σ.length ∧ ∀ j, j ∉ is → σ'[j]? = σ[j]?
theorem Chg.trans {is js : List Nat} {σ σ1 σ2 : L2.St} (a : Chg is σ σ1) (b : Chg js σ1 σ2) : Chg (is ++ js) σ σ2 :=
  ⟨b.1.trans a.1, fun j hj => (b.2 j fun z => hj (List.mem_append_right _ z)).trans (a.2 j fun z => hj (List.mem_append_left _ z))⟩
def tGg (G : Sig) (K : PySem.W.Frag) (is : List Nat) (gs : EV.D → Frm → Sto → Option Frm) : TG := fun v σ H Q => ∃ d ρ S W, RE K W ρ σ ∧ RS G K W S H ∧ Rep K W d v ∧ ∃ ρ', gs d ρ S = some ρ' ∧ ∀ σ', RE K W ρ' σ' → Chg is σ σ' → Q σ' H
def tGgs (G : Sig) (K : PySem.W.Frag) (is : List Nat) (gs : List EV.D → Frm → Sto → Option Frm) : TGs := fun vs σ H Q => ∃ ds ρ S W, RE K W ρ σ ∧ RS G K W S H ∧ Reps K W ds vs ∧ ∃ ρ', gs ds ρ S = some ρ' ∧ ∀ σ', RE K W ρ' σ' → Chg is σ σ' → Q σ' H
def GG (G : Sig) (X : Cx) (tg : Expr) (is : List Nat) (gs : EV.D → Frm → Sto → Option Frm) : Prop := PG X tg (tGg G X.K is gs)
def GGs (G : Sig) (X : Cx) (tgs : List Expr) (is : List Nat) (gs : List EV.D → Frm → Sto → Option Frm) : Prop := PGs X tgs (tGgs G X.K is gs)
theorem pg_imp {tg : Expr} {t t' : TG} (h : PG X tg t) (i : ∀ v σ H Q, t' v σ H Q → t v σ H Q) : PG X tg t' := ⟨fun pins s σ H v u Q I r q => h.run pins s σ H v u Q I r (i _ _ _ _ q)⟩
theorem pgs_imp {tg : List Expr} {t t' : TGs} (h : PGs X tg t) (i : ∀ v σ H Q, t' v σ H Q → t v σ H Q) : PGs X tg t' := ⟨fun pins s σ H v u Q I r q => h.run pins s σ H v u Q I r (i _ _ _ _ q)⟩
def gName (i : Nat) : EV.D → Frm → Sto → Option Frm := fun d ρ _ => some (ρ.set i (some d))
theorem gg_name {i : Nat} {x : Str} (hN : X.N.Nodup) (hi : X.N[i]? = some x) (hx : Loc X.env.scope x) (hf : X.fn x = true ∨ X.env.scope.names.lookup x = some .local := by first | exact .inl rfl | exact .inr rfl | assumption) : GG G X (.Name x pos) [i] (gName i) := by
  refine pg_imp (pg_name hN hi hx hf) ?_
  rintro v σ H Q ⟨d, ρ, S, W, E, R, r, ρ', e, h⟩
  cases e
  refine h _ (E.set r i) ⟨by rw [List.length_set], fun j hj => ?_⟩
  rw [List.getElem?_set_ne (fun z => hj (by simp [z]))]
def gNilT : List EV.D → Frm → Sto → Option Frm := fun ds ρ _ => match ds with
  | [] => some ρ
  | _ => none
def gConsT (t : EV.D → Frm → Sto → Option Frm) (u : List EV.D → Frm → Sto → Option Frm) : List EV.D → Frm → Sto → Option Frm := fun ds ρ S => match ds with
  | [] => none
  | d :: r => match t d ρ S with
    | some ρ1 => u r ρ1 S
    | none => none
theorem ggs_nil : GGs G X [] [] gNilT := by
  refine pgs_imp pgs_nil ?_
  rintro vs σ H Q ⟨ds, ρ, S, W, E, R, r, ρ', e, h⟩
  cases r with
  | nil => cases e; exact ⟨rfl, h σ E ⟨rfl, fun _ _ => rfl⟩⟩
  | cons _ _ => cases e
theorem ggs_cons {e : Expr} {es : List Expr} {is js : List Nat} {t : EV.D → Frm → Sto → Option Frm} {u : List EV.D → Frm → Sto → Option Frm} (h1 : GG G X e is t) (h2 : GGs G X es js u)
    (hs : (assignEach (e :: es) X.env).map (·.2) = assign e X.env :: (assignEach es X.env).map (·.2) := by rfl) : GGs G X (e :: es) (is ++ js) (gConsT t u) := by
  refine pgs_imp (pgs_cons h1 h2 hs) ?_
  rintro vs σ H Q ⟨ds, ρ, S, W, E, R, r, ρ', e, h⟩
  cases r with
  | nil => cases e
  | cons hd tl =>
    rename_i d v ds vs
    dsimp only [gConsT] at e
    split at e
    · rename_i ρ1 e1
      exact ⟨v, vs, rfl, d, ρ, S, W, E, R, hd, ρ1, e1, fun σ1 E1 c1 => ⟨ds, ρ1, S, W, E1, R, tl, ρ', e, fun σ2 E2 c2 => h σ2 E2 (c1.trans c2)⟩⟩
    · cases e
def gTupT (n : Nat) (u : List EV.D → Frm → Sto → Option Frm) : EV.D → Frm → Sto → Option Frm := fun d ρ S => match d with
  | .tup xs => if xs.length = n then u xs ρ S else none
  | _ => none
theorem gg_tup {es : List Expr} {k : Nat} {is : List Nat} {u : List EV.D → Frm → Sto → Option Frm} {n : Nat} (hc : X.calm = true) (h : GGs G X es is u)
    (hn : (assignEach es X.env).length = n := by rfl) (hst : (assignEach es X.env).findIdx? (·.1) = none := by rfl) : GG G X (.Tuple es k pos) is (gTupT n u) := by
  refine pg_imp (pg_tup hc h hn hst) ?_
  rintro v σ H Q ⟨d, ρ, S, W, E, R, r, ρ', e, h⟩
  cases r with
  | tup hh rs =>
    dsimp only [gTupT] at e
    split at e
    · rename_i hl
      exact ⟨_, _, rfl, .of (R.fr _ _ hh), by rw [← rs.length]; exact hl, _, ρ, S, W, E, R, rs, ρ', e, h⟩
    · cases e
  | _ => cases e
/-- target = e -/
def xAsg (gs : EV.D → Frm → Sto → Option Frm) (f : EX) : ES := fun ρ S => bndS (f ρ S) ρ fun d S1 => match gs d ρ S1 with
  | some ρ1 => some (.nx ρ1 S1)
  | none => none
theorem gs_asg {tg : Expr} {is : List Nat} {gs : EV.D → Frm → Sto → Option Frm} (he : GE G X e f) (hg : GG G X tg is gs) (hs : swapsWithSole [tg] e pos.line X.env = pure false := by rfl) (hw : swappedStores [tg] e X.env = pure none := by rfl)
    (h1 : (assignEach [tg] X.env).map (·.2) = [assign tg X.env] := by rfl) : GS G X (.Assign [tg] e pos) (xAsg gs f) := by
  intro Wx tk
  refine ps_imp (ps_asg (he Wx tk) hg hs hw h1) ?_
  rintro D σ H ⟨ρ, S, W, E, R, h⟩
  refine tE_ofS E R h fun d S1 v H1 W1 T1 E1 R1 r1 h1 => ?_
  generalize q : gs d ρ S1 = o at h1
  match o, h1 with
  | none, h1 => exact h1.elim
  | some ρ1, h1 => exact ⟨d, ρ, S1, W1, E1, R1, r1, ρ1, q, fun σ' E' _ => h1 σ' H1 W1 (.refl _ _) E' R1⟩
/-- a, b = x, y: two names of the def -/
def xPar (i j : Nat) (fr : EA) : ES := fun ρ S => bndS (fr ρ S) ρ fun ds S1 => match ds with
  | [a, b] => some (.nx ((ρ.set i (some a)).set j (some b)) S1)
  | _ => none
theorem gs_par {i j : Nat} {x y : Str} {a b : Expr} {fr : EA} {px py pt : Pos} {kt k2 pt2} (C : Ctx X) (hi : X.N[i]? = some x) (hj : X.N[j]? = some y) (hij : i ≠ j)
    (hx : X.env.scope.names.lookup x = some .local) (hy : X.env.scope.names.lookup y = some .local) (ha : GA G X [a, b] fr)
    (hw : swappedStores [.Tuple [.Name x px, .Name y py] kt pt] (.Tuple [a, b] k2 pt2) X.env = pure (some [x, y]))
    (hs : swapsWithSole [.Tuple [.Name x px, .Name y py] kt pt] (.Tuple [a, b] k2 pt2) pos.line X.env = pure false := by rfl) :
    GS G X (.Assign [.Tuple [.Name x px, .Name y py] kt pt] (.Tuple [a, b] k2 pt2) pos) (xPar i j fr) := by
  intro Wx tk
  refine ps_imp (ps_par C.calm C.nd hi hj hij hx hy (ha Wx tk) hw hs) ?_
  rintro D σ H ⟨ρ, S, W, E, R, h⟩
  refine tA_ofS E R h fun ds S1 vs H1 W1 T1 E1 R1 r1 h1 => ?_
  match ds, r1, h1 with
  | [], _, h1 => exact h1.elim
  | [_], _, h1 => exact h1.elim
  | [d1, d2], r1, h1 =>
    obtain ⟨v, u, rfl, q1, q2⟩ := reps2 r1
    exact ⟨v, u, rfl, h1 _ H1 W1 (.refl _ _) ((E1.set q1 i).set q2 j) R1⟩
  | _ :: _ :: _ :: _, _, h1 => exact h1.elim
/-- o[i] = e, o a cell that holds a list -/
def xSetIx (fo fi fe : EX) : ES := fun ρ S => bndS (bnd (fe ρ S) fun v S1 => bnd (fo ρ S1) fun o S2 => bnd (fi ρ S2) fun k S3 => match o, k with
  | .cell n, .int z => match S3[n]? with
    | some (some (.lst xs)) => match ixN xs.length z with
      | some m => some (.ok D.non, S3.set n (some (.lst (xs.set m v))))
      | none => none
    | _ => none
  | _, _ => none) ρ fun _ S4 => some (.nx ρ S4)
theorem gs_setIx {o i : Expr} {fo fi : EX} {tpos : Pos} (ho : GE G X o fo) (hi : GE G X i fi) (he : GE G X e f)
    (ha : ∀ v, assign (.Subscript o i tpos) X.env v = (do
      let ov ← holding [v] (eval o X.env)
      let iv ← holding [v, ov] (eval i X.env)
      standAt tpos
      holding [v, ov, iv] (setItem ov iv v)
      release [v, ov, iv] []) := by intro _; rfl)
    (hs : swapsWithSole [.Subscript o i tpos] e pos.line X.env = pure false := by rfl) (hw : swappedStores [.Subscript o i tpos] e X.env = pure none := by rfl)
    (h1 : (assignEach [.Subscript o i tpos] X.env).map (·.2) = [assign (.Subscript o i tpos) X.env] := by rfl) : GS G X (.Assign [.Subscript o i tpos] e pos) (xSetIx fo fi f) := by
  intro Wx tk
  refine ps_imp (ps_asg (he Wx tk) (pg_sub (ho Wx tk) (hi Wx tk) set_list ha) hs hw h1) ?_
  rintro D σ H ⟨ρ, S, W, E, R, h⟩
  have h' : PostS G X.K Wx D W H (bndS (f ρ S) ρ fun v S1 => bndS (fo ρ S1) ρ fun o S2 => bndS (fi ρ S2) ρ fun k S3 => match o, k with
    | .cell n, .int z => match S3[n]? with
      | some (some (.lst xs)) => match ixN xs.length z with
        | some m => some (.nx ρ (S3.set n (some (.lst (xs.set m v)))))
        | none => none
      | _ => none
    | _, _ => none) := by
    unfold xSetIx at h
    generalize f ρ S = r at h ⊢
    match r, h with
    | none, h => exact h.elim
    | some (.error e, S'), h => exact h
    | some (.ok v, S1), h =>
      simp only [bnd_ok, bndS_ok] at h ⊢
      generalize fo ρ S1 = r at h ⊢
      match r, h with
      | none, h => exact h.elim
      | some (.error e, S'), h => exact h
      | some (.ok o, S2), h =>
        simp only [bnd_ok, bndS_ok] at h ⊢
        generalize fi ρ S2 = r at h ⊢
        match r, h with
        | none, h => exact h.elim
        | some (.error e, S'), h => exact h
        | some (.ok k, S3), h =>
          simp only [bnd_ok, bndS_ok] at h ⊢
          split at h
          · split at h
            · split at h
              · exact h
              · exact h.elim
            · exact h.elim
          · exact h.elim
  refine tE_ofS E R h' fun v S1 vv H1 W1 T1 E1 R1 r1 q1 => ?_
  refine tE_ofS E1 R1 q1 fun o S2 ov H2 W2 T2 E2 R2 r2 q2 => ?_
  refine tE_ofS E2 R2 q2 fun k S3 kv H3 W3 T3 E3 R3 r3 q3 => ?_
  split at q3
  · rename_i n z
    split at q3
    · rename_i xs e1
      split at q3
      · rename_i m e2
        have r2' := r2.mono T3.le
        cases r2' with
        | cell ha =>
          cases r3
          obtain ⟨a', h1, _, vs, h3, h4⟩ := R3.cl n _ e1
          rw [ha] at h1
          cases h1
          have rv := (r1.mono T2.le).mono T3.le
          refine ⟨_, vs, z, m, rfl, rfl, h3, by rw [← h4.length]; exact e2, ?_⟩
          obtain ⟨T4, R4⟩ := R3.put e1 ha (c' := .lst (xs.set m v)) (o := .lst (vs.set m vv)) ⟨_, upd_same, h4.set rv m⟩
          exact q3 σ _ W3 T4 E3 R4
      · exact q3.elim
    · exact q3.elim
  · exact q3.elim
end
end EV

/-! E5: what is walked; for, while, comprehensions. -/
namespace EV
open PySem PySem.Spec PyProof.Rows L2

/-- the items, and what must stay so that they are these -/
abbrev Itm := List D × (Sto → Prop)
abbrev EI := Frm → Sto → Res Itm
/-- what an iterator gives, by data -/
def WalkD (G : Sig) (K : PySem.W.Frag) (W : Wd) (J : It) (ds : List D) (g : Sto → Prop) : Prop :=
  ∃ (Gd : Hp → Prop) (Y : Nat → Hp → V → Hp → Prop), Walk J ds.length Gd Y ∧ (∀ W2 S2 H2, W.le W2 → RS G K W2 S2 H2 → g S2 → Gd H2) ∧
    ∀ i H2 x H3 W2 S2, W.le W2 → RS G K W2 S2 H2 → g S2 → i < ds.length → Y i H2 x H3 → ∃ W3 d, Stp W2 H2 W3 H3 ∧ RS G K W3 S2 H3 ∧ ds[i]? = some d ∧ Rep K W3 d x
def PostI (G : Sig) (K : PySem.W.Frag) (Wx : WX) (σ : L2.St) (R : It → Hp → Prop) (W : Wd) (H : Hp) : Res Itm → Prop
  | none => False
  | some (.ok (ds, g), S) => ∀ J H' W', Stp W H W' H' → RS G K W' S H' → WalkD G K W' J ds g → R J H'
  | some (.error e, S) => ∀ cls dx H' W', Stp W H W' H' → RS G K W' S H' → ErIs G K W' H' e cls dx → Wx cls dx σ H'
def tI (G : Sig) (K : PySem.W.Frag) (Wx : WX) (f : EI) : TI := fun σ H R => ∃ ρ S W, RE K W ρ σ ∧ RS G K W S H ∧ PostI G K Wx σ R W H (f ρ S)
def GI (G : Sig) (X : Cx) (tg e : Expr) (f : EI) : Prop := ∀ Wx, Takes X Wx → PI X tg e (tI G X.K Wx f)
theorem pkI {G : Sig} {K : PySem.W.Frag} {Wx : WX} {σ : L2.St} {R : It → Hp → Prop} : PKt G K Wx σ (PostI G K Wx σ R) where
  no := fun _ _ h => h
  er := fun _ _ _ _ h => h
  later := fun W H W1 H1 S1 r T _ h => by
    match r, h with
    | some (.ok (d, g), S), h => exact fun v H' W' T' R r => h v H' W' (T.trans T') R r
    | some (.error e, S), h => exact fun cls dx H' W' T' R r => h cls dx H' W' (T.trans T') R r
section
variable {G : Sig} {X : Cx} {tg e : Expr} {f : EX} {pos : Pos}
theorem pi_imp {t t' : TI} (h : PI X tg e t) (i : ∀ σ H R, t' σ H R → t σ H R) : PI X tg e t' := ⟨fun pins s σ H R I q => h.run pins s σ H R I (i _ _ _ q)⟩
theorem pi_or {t t' : TI} (h : PI X tg e t) (h' : PI X tg e t') : PI X tg e (fun σ H R => t σ H R ∨ t' σ H R) := ⟨fun pins s σ H R I q => by
  rcases q with q | q
  · exact h.run pins s σ H R I q
  · exact h'.run pins s σ H R I q⟩
/-- a sequence's items stay: of a cell, what it holds -/
def stays (S : Sto) : D → Sto → Prop
  | .cell n => fun S2 => S2[n]? = S[n]?
  | _ => fun _ => True
theorem seq_stays {S S2 : Sto} : ∀ {d : D} {xs : List D}, seqD S d = some xs → stays S d S2 → seqD S2 d = some xs
  | .tup _, _, e, _ => e
  | .lst _, _, e, _ => e
  | .scr _, _, e, _ => e
  | .cell n, _, e, h => by
    have h' : S2[n]? = S[n]? := h
    dsimp only [seqD] at e ⊢
    rw [h']; exact e
  | .non, _, e, _ => e
  | .bl _, _, e, _ => e
  | .int _, _, e, _ => e
  | .str _, _, e, _ => e
  | .obj _ _, _, e, _ => e
def xSeqI (f : EX) : EI := fun ρ S => bnd (f ρ S) fun d S1 => match seqD S1 d with
  | some xs => some (.ok (xs, stays S1 d), S1)
  | none => none
theorem Reps.rev {K : PySem.W.Frag} {W : Wd} {xs : List D} {vs : List V} {i : Nat} {x : V} (r : Reps K W xs vs) (h : vs[i]? = some x) : ∃ d, xs[i]? = some d ∧ Rep K W d x := r.get' h
theorem walkL {K : PySem.W.Frag} {W : Wd} {a : Addr} {xs : List D} {g : Sto → Prop} (hs : ∀ W2 S2 H2, W.le W2 → RS G K W2 S2 H2 → g S2 → ∃ vs, SqL K H2 a vs ∧ Reps K W2 xs vs) : WalkD G K W (Itl K a) xs g := by
  refine ⟨fun H2 => ∃ vs, SqL K H2 a vs ∧ vs.length = xs.length, fun i H2 x H3 => H3 = H2 ∧ ∀ vs, SqL K H2 a vs → vs[i]? = some x, ⟨fun i H2 hi ⟨vs, q, hl⟩ => ⟨vs, vs[i]'(by omega), q, by simp [show i < vs.length by omega]⟩, fun H2 ⟨vs, q, hl⟩ => ⟨vs, q, by omega⟩, fun i H2 x H3 _ _ y => y⟩, fun W2 S2 H2 le R2 st => ?_, fun i H2 x H3 W2 S2 le R2 st hi y => ?_⟩
  · obtain ⟨vs, q, r⟩ := hs W2 S2 H2 le R2 st
    exact ⟨vs, q, r.length.symm⟩
  · obtain ⟨vs, q, r⟩ := hs W2 S2 H2 le R2 st
    obtain ⟨rfl, y2⟩ := y
    obtain ⟨d, h1, h2⟩ := r.rev (y2 vs q)
    exact ⟨W2, d, .refl _ _, R2, h1, h2⟩
theorem walkTp {K : PySem.W.Frag} {W : Wd} {a : Addr} {xs : List D} {g : Sto → Prop} (hs : ∀ W2 S2 H2, W.le W2 → RS G K W2 S2 H2 → g S2 → ∃ vs, SqT K H2 a vs ∧ Reps K W2 xs vs) : WalkD G K W (Itt K a) xs g := by
  refine ⟨fun H2 => ∃ vs, SqT K H2 a vs ∧ vs.length = xs.length, fun i H2 x H3 => H3 = H2 ∧ ∀ vs, SqT K H2 a vs → vs[i]? = some x, ⟨fun i H2 hi ⟨vs, q, hl⟩ => ⟨vs, vs[i]'(by omega), q, by simp [show i < vs.length by omega]⟩, fun H2 ⟨vs, q, hl⟩ => ⟨vs, q, by omega⟩, fun i H2 x H3 _ _ y => y⟩, fun W2 S2 H2 le R2 st => ?_, fun i H2 x H3 W2 S2 le R2 st hi y => ?_⟩
  · obtain ⟨vs, q, r⟩ := hs W2 S2 H2 le R2 st
    exact ⟨vs, q, r.length.symm⟩
  · obtain ⟨vs, q, r⟩ := hs W2 S2 H2 le R2 st
    obtain ⟨rfl, y2⟩ := y
    obtain ⟨d, h1, h2⟩ := r.rev (y2 vs q)
    exact ⟨W2, d, .refl _ _, R2, h1, h2⟩
/-- a list or a tuple, whichever it is -/
theorem seq_kind {K : PySem.W.Frag} {W : Wd} {S : Sto} {H : Hp} {d : D} {v : V} {xs : List D} (R : RS G K W S H) (r : Rep K W d v) (e : seqD S d = some xs) :
    (∃ a vs, v = .ref a ∧ (∀ ys, d ≠ .tup ys) ∧ SqL K H a vs ∧ ∀ W2 S2 H2, W.le W2 → RS G K W2 S2 H2 → stays S d S2 → ∃ vs, SqL K H2 a vs ∧ Reps K W2 xs vs) ∨
    (∃ a vs, v = .ref a ∧ (∃ ys, d = .tup ys) ∧ SqT K H a vs ∧ ∀ W2 S2 H2, W.le W2 → RS G K W2 S2 H2 → stays S d S2 → ∃ vs, SqT K H2 a vs ∧ Reps K W2 xs vs) := by
  cases r with
  | tup h rs =>
    cases e
    exact .inr ⟨_, _, rfl, ⟨_, rfl⟩, .of (R.fr _ _ h), fun W2 S2 H2 le R2 _ => ⟨_, .of (R2.fr _ _ (le.h _ _ h)), rs.mono le⟩⟩
  | lst h rs =>
    cases e
    exact .inl ⟨_, _, rfl, (fun _ z => nomatch z), .of (R.fr _ _ h), fun W2 S2 H2 le R2 _ => ⟨_, .of (R2.fr _ _ (le.h _ _ h)), rs.mono le⟩⟩
  | scr h =>
    cases e
    exact .inl ⟨_, _, rfl, (fun _ z => nomatch z), R.fr.seq h, fun W2 S2 H2 le R2 _ => ⟨_, R2.fr.seq (le.h.seq h), .ints⟩⟩
  | @cell a n h =>
    dsimp only [seqD] at e
    split at e
    · rename_i ds q
      have ed : ds = xs := Option.some.inj e
      subst ed
      have at_ : ∀ W2 S2 H2, W.le W2 → RS G K W2 S2 H2 → stays S (.cell n) S2 → ∃ vs, H2 a = some (.lst vs) ∧ Reps K W2 ds vs := fun W2 S2 H2 le R2 st => by
        have st' : S2[n]? = S[n]? := st
        obtain ⟨a', h1, _, vs, h3, h4⟩ := R2.cl n _ (st'.trans q)
        rw [le.at h] at h1
        cases h1
        exact ⟨vs, h3, h4⟩
      obtain ⟨vs, h3, h4⟩ := at_ W S H (.refl _) R rfl
      exact .inl ⟨_, vs, rfl, (fun _ z => nomatch z), .of h3, fun W2 S2 H2 le R2 st => let ⟨vs, h3, h4⟩ := at_ W2 S2 H2 le R2 st; ⟨vs, .of h3, h4⟩⟩
    · cases e
  | _ => cases e
theorem gi_seq (h : GE G X e f) : GI G X tg e (xSeqI f) := by
  intro Wx tk
  refine pi_imp (pi_or (pi_list (h Wx tk)) (pi_tup (h Wx tk))) ?_
  rintro σ H R ⟨ρ, S, W, E, RR, hq⟩
  unfold xSeqI at hq
  generalize q : f ρ S = r at hq
  match r, hq with
  | none, hq => exact hq.elim
  | some (.error er, S1), hq =>
    refine .inl ⟨ρ, S, W, E, RR, ?_⟩
    rw [q]
    exact hq
  | some (.ok d, S1), hq =>
    have hq' : PostI G X.K Wx σ R W H (match seqD S1 d with
      | some xs => some (.ok (xs, stays S1 d), S1)
      | none => none) := hq
    by_cases ht : ∃ ys, d = .tup ys
    · refine .inr ⟨ρ, S, W, E, RR, ?_⟩
      rw [q]
      intro v H1 W1 T1 R1 r1
      split at hq'
      · rename_i xs e1
        rcases seq_kind R1 r1 e1 with ⟨a, vs, rfl, z, _⟩ | ⟨a, vs, rfl, z, hs, again⟩
        · obtain ⟨ys, hy⟩ := ht
          exact absurd hy (z ys)
        · exact ⟨a, rfl, ⟨vs, hs⟩, hq' _ H1 W1 T1 R1 (walkTp again)⟩
      · exact hq'.elim
    · refine .inl ⟨ρ, S, W, E, RR, ?_⟩
      rw [q]
      intro v H1 W1 T1 R1 r1
      split at hq'
      · rename_i xs e1
        rcases seq_kind R1 r1 e1 with ⟨a, vs, rfl, z, hs, again⟩ | ⟨a, vs, rfl, z, _⟩
        · exact ⟨a, rfl, ⟨vs, hs⟩, hq' _ H1 W1 T1 R1 (walkL again)⟩
        · exact absurd z ht
      · exact hq'.elim
/-! ### ranges -/
def rangeD (lo : Int) (n : Nat) : List D := (List.range n).map fun i => .int (lo + (i : Nat))
theorem walkR {K : PySem.W.Frag} {W : Wd} {lo : Int} {n : Nat} : WalkD G K W (Itr lo n) (rangeD lo n) (fun _ => True) := by
  have hl : (rangeD lo n).length = n := by simp [rangeD]
  refine ⟨fun _ => True, YFn fun i => .int (lo + i), by rw [hl]; exact walk_range, fun _ _ _ _ _ _ => trivial, fun i H2 x H3 W2 S2 le R2 _ hi y => ?_⟩
  obtain ⟨rfl, rfl⟩ := y
  rw [hl] at hi
  refine ⟨W2, .int (lo + (i : Nat)), .refl _ _, R2, ?_, .int _⟩
  unfold rangeD
  rw [List.getElem?_map, List.getElem?_range hi]
  rfl
def rngOk (i j : Int) : Bool := decide (-(2 ^ 62) ≤ i) && decide (i < 2 ^ 62) && decide (-(2 ^ 62) ≤ j) && decide (j < 2 ^ 62)
def xRng1 (fr : EA) : EI := fun ρ S => bnd (fr ρ S) fun ds S1 => match ds with
  | [.int j] => if rngOk 0 j then some (.ok (rangeD 0 j.toNat, fun _ => True), S1) else none
  | _ => none
def xRng2 (fr : EA) : EI := fun ρ S => bnd (fr ρ S) fun ds S1 => match ds with
  | [.int i, .int j] => if rngOk i j then some (.ok (rangeD i (j - i).toNat, fun _ => True), S1) else none
  | _ => none
variable {a b : Expr} {fr : EA} {p : Pos}
theorem gi_rng1 (hg : Gl X "range") (hm : X.mg "range" = none) (ha : GA G X [a] fr) (hs : starEach [a] X.env = [(false, eval a X.env)] := by rfl) : GI G X tg (.Call (.Name "range" p) [a] [] pos) (xRng1 fr) := by
  intro Wx tk
  refine pi_imp (pi_range1 hg hm (ha Wx tk) hs) ?_
  rintro σ H R ⟨ρ, S, W, E, RR, h⟩
  refine tA_of pkI E RR h fun ds S1 vs H1 W1 T1 E1 R1 r1 h1 => ?_
  split at h1
  · rename_i j
    split at h1
    · rename_i c
      unfold rngOk at c
      simp only [Bool.and_eq_true, decide_eq_true_eq] at c
      obtain ⟨v, rfl, q⟩ := reps1 r1
      cases q
      exact ⟨j, rfl, c.1.2, c.2, h1 _ H1 W1 (.refl _ _) R1 walkR⟩
    · exact h1.elim
  · exact h1.elim
theorem gi_rng2 (hg : Gl X "range") (hm : X.mg "range" = none) (ha : GA G X [a, b] fr) (hs : starEach [a, b] X.env = [(false, eval a X.env), (false, eval b X.env)] := by rfl) (hs2 : starEach [b] X.env = [(false, eval b X.env)] := by rfl) :
    GI G X tg (.Call (.Name "range" p) [a, b] [] pos) (xRng2 fr) := by
  intro Wx tk
  refine pi_imp (pi_range2 hg hm (ha Wx tk) hs hs2) ?_
  rintro σ H R ⟨ρ, S, W, E, RR, h⟩
  refine tA_of pkI E RR h fun ds S1 vs H1 W1 T1 E1 R1 r1 h1 => ?_
  split at h1
  · rename_i i j
    split at h1
    · rename_i c
      unfold rngOk at c
      simp only [Bool.and_eq_true, decide_eq_true_eq] at c
      obtain ⟨v, u, rfl, q1, q2⟩ := reps2 r1
      cases q1
      cases q2
      exact ⟨i, j, rfl, ⟨c.1.1.1, c.1.1.2, c.1.2, c.2⟩, h1 _ H1 W1 (.refl _ _) R1 walkR⟩
    · exact h1.elim
  · exact h1.elim
end

/-! ### for -/
noncomputable section
open Classical in
def forLoop (g : Sto → Prop) (gs : D → Frm → Sto → Option Frm) (bs : ES) : List D → Frm → Sto → Option Out
  | [], ρ, S => if g S then some (.nx ρ S) else none
  | d :: ds, ρ, S => if g S then match gs d ρ S with
      | none => none
      | some ρ1 => match bs ρ1 S with
        | some (.nx ρ2 S2) => forLoop g gs bs ds ρ2 S2
        | some (.ct ρ2 S2) => forLoop g gs bs ds ρ2 S2
        | some (.bk ρ2 S2) => some (.nx ρ2 S2)
        | o => o
    else none
def xFor (it : EI) (gs : D → Frm → Sto → Option Frm) (bs : ES) : ES := fun ρ S => bndS (it ρ S) ρ fun p S1 => forLoop p.2 gs bs p.1 ρ S1
end
section
variable {G : Sig} {X : Cx} {tg iter e : Expr} {body : List Stmt} {pos : Pos} {it : EI} {is : List Nat} {gs : EV.D → Frm → Sto → Option Frm} {bs : ES} {ft : ET}
theorem gs_for (C : Ctx X) (hi : GI G X tg iter it) (hg : GG G X tg is gs) (hb : GB G X body bs) (hs : ∀ x, foldedSetIterable iter X.env x = pure x := by intro _; rfl) : GS G X (.For tg iter body [] pos) (xFor it gs bs) := by
  intro Wx tk
  refine ps_imp (ps_for C.pass C.calm (hi Wx tk) hg (hb Wx tk) hs) ?_
  rintro D σ H ⟨ρ, S, W, E, R, h⟩
  refine ⟨ρ, S, W, E, R, ?_⟩
  unfold xFor at h
  generalize it ρ S = r at h ⊢
  match r, h with
  | none, h => exact h.elim
  | some (.error e, S'), h => exact fun cls dx H' W' T R' er => h cls dx σ H' W' T (E.mono T.le) R' er
  | some (.ok (ds, g), S1), h =>
    intro J H1 W1 T1 R1 ⟨Gd, Y, wk, hG, hY⟩
    have h0 : PostS G X.K Wx D W1 H1 (forLoop g gs bs ds ρ S1) := PostS.later T1 h
    refine for_it wk (fun i σ' H' => ∃ ρ' S' W', W1.le W' ∧ RE X.K W' ρ' σ' ∧ RS G X.K W' S' H' ∧ PostS G X.K Wx D W' H' (forLoop g gs bs (ds.drop i) ρ' S')) ⟨ρ, S1, W1, .refl _, E.mono T1.le, R1, h0⟩ ?_ ?_ ?_
    · rintro i σ' H' hi ⟨ρ', S', W', le, E', R', q⟩
      refine hG W' S' H' le R' ?_
      generalize ds.drop i = l at q
      cases l with
      | nil =>
        rw [forLoop] at q
        split at q
        · assumption
        · exact q.elim
      | cons d l =>
        rw [forLoop] at q
        split at q
        · assumption
        · exact q.elim
    · rintro i x σ' H' H2 hi ⟨ρ', S', W', le, E', R', q⟩ y
      rw [List.drop_eq_getElem_cons hi, forLoop] at q
      split at q
      · rename_i gS
        obtain ⟨W3, d, T3, R3, hd, rd⟩ := hY i H' x H2 W' S' le R' gS hi y
        rw [List.getElem?_eq_getElem hi] at hd
        cases hd
        split at q
        · exact q.elim
        · rename_i ρ1 e1
          refine ⟨_, ρ', S', W3, E'.mono T3.le, R3, rd, ρ1, e1, fun σ2 E2 _ => ⟨ρ1, S', W3, E2, R3, ?_⟩⟩
          have q' := PostS.later T3 q
          clear q
          generalize bs ρ1 S' = o at q' ⊢
          match o, q' with
          | none, q' => exact q'.elim
          | some (.nx ρ2 S2), q' => exact fun σ4 H4 W4 T4 E4 R4 => ⟨ρ2, S2, W4, (le.trans T3.le).trans T4.le, E4, R4, PostS.later T4 q'⟩
          | some (.ct ρ2 S2), q' => exact fun σ4 H4 W4 T4 E4 R4 => ⟨ρ2, S2, W4, (le.trans T3.le).trans T4.le, E4, R4, PostS.later T4 q'⟩
          | some (.bk ρ2 S2), q' => exact q'
          | some (.rt d S2), q' => exact q'
          | some (.er e ρ2 S2), q' => exact q'
      · exact q.elim
    · rintro σ' H' ⟨ρ', S', W', le, E', R', q⟩
      rw [List.drop_eq_nil_of_le (Nat.le_refl _), forLoop] at q
      split at q
      · exact q σ' H' W' (.refl _ _) E' R'
      · exact q.elim
/-! ### while: so many turns at most -/
def whileF (ft : ET) (bs : ES) : Nat → Frm → Sto → Option Out
  | 0, _, _ => none
  | n + 1, ρ, S => bndS (ft ρ S) ρ fun b S1 => if b then match bs ρ S1 with
      | some (.nx ρ2 S2) => whileF ft bs n ρ2 S2
      | some (.ct ρ2 S2) => whileF ft bs n ρ2 S2
      | some (.bk ρ2 S2) => some (.nx ρ2 S2)
      | o => o
    else some (.nx ρ S1)
/-- the turns are bounded by any function of the frame and the store -/
def xWhile (fuel : Frm → Sto → Nat) (ft : ET) (bs : ES) : ES := fun ρ S => whileF ft bs (fuel ρ S) ρ S
theorem gs_while (fuel : Frm → Sto → Nat) (C : Ctx X) (hc : GT G X e ft) (hb : GB G X body bs) : GS G X (.While e body [] pos) (xWhile fuel ft bs) := by
  intro Wx tk
  refine ps_imp (ps_while C.pass (hc Wx tk) (hb Wx tk)) ?_
  rintro D σ H ⟨ρ, S, W, E, R, h⟩
  refine ⟨fun n σ' H' => ∃ ρ' S' W', RE X.K W' ρ' σ' ∧ RS G X.K W' S' H' ∧ PostS G X.K Wx D W' H' (whileF ft bs n ρ' S'), ⟨_, ρ, S, W, E, R, h⟩, ?_⟩
  rintro n σ' H' ⟨ρ', S', W', E', R', q⟩
  cases n with
  | zero => exact q.elim
  | succ n =>
    rw [whileF] at q
    refine tT_ofS E' R' q fun b S1 H1 W1 T1 E1 R1 q1 => ?_
    cases b with
    | false => exact iteF (q1 σ' H1 W1 (.refl _ _) E1 R1)
    | true =>
      refine iteT ⟨fun σ2 H2 => ∃ ρ2 S2 W2, RE X.K W2 ρ2 σ2 ∧ RS G X.K W2 S2 H2 ∧ PostS G X.K Wx D W2 H2 (whileF ft bs n ρ2 S2), fun σ2 H2 z => ⟨n, Nat.lt_succ_self _, z⟩, ρ', S1, W1, E1, R1, ?_⟩
      rw [if_pos rfl] at q1
      generalize bs ρ' S1 = o at q1 ⊢
      match o, q1 with
      | none, q1 => exact q1.elim
      | some (.nx ρ2 S2), q1 => exact fun σ4 H4 W4 T4 E4 R4 => ⟨ρ2, S2, W4, E4, R4, PostS.later T4 q1⟩
      | some (.ct ρ2 S2), q1 => exact fun σ4 H4 W4 T4 E4 R4 => ⟨ρ2, S2, W4, E4, R4, PostS.later T4 q1⟩
      | some (.bk ρ2 S2), q1 => exact q1
      | some (.rt d S2), q1 => exact q1
      | some (.er e ρ2 S2), q1 => exact q1
end

/-! ### comprehensions -/
def wipeF (ρ : Frm) : List Nat → Frm
  | [] => ρ
  | i :: is => (wipeF ρ is).set i none
theorem RE.wipe {K : PySem.W.Frag} {W : Wd} {ρ : Frm} {σ : L2.St} (r : RE K W ρ σ) : ∀ is : List Nat, RE K W (wipeF ρ is) (wipe σ is)
  | [] => r
  | i :: is => (RE.wipe r is).unset i none
noncomputable section
open Classical in
def lcLoop (g : Sto → Prop) (gs : D → Frm → Sto → Option Frm) (ts : ET) (es : EX) : List D → Frm → Sto → Option (List D × Sto)
  | [], _, S => if g S then some ([], S) else none
  | d :: ds, ρ, S => if g S then match gs d ρ S with
      | none => none
      | some ρ1 => match ts ρ1 S with
        | some (.ok true, S1) => match es ρ1 S1 with
          | some (.ok y, S2) => match lcLoop g gs ts es ds ρ S2 with
            | some (ys, S3) => some (y :: ys, S3)
            | none => none
          | _ => none
        | some (.ok false, S1) => lcLoop g gs ts es ds ρ S1
        | _ => none
    else none
def xLc (it : EI) (gs : D → Frm → Sto → Option Frm) (ts : ET) (es : EX) (own : List Nat) : EA := fun ρ S => bnd (it ρ S) fun p S1 => if p.1.length ≤ cap then match lcLoop p.2 gs ts es p.1 (wipeF ρ own) S1 with
    | some (ys, S2) => some (.ok ys, S2)
    | none => none
  else none
end
def xYes : ET := fun _ S => some (.ok true, S)
def GTs (G : Sig) (X : Cx) (ifs : List Expr) (f : ET) : Prop := ∀ Wx, Takes X Wx → PTs X ifs (tT G X.K Wx f)
section
variable {G : Sig} {X : Cx} {tg iter elt c : Expr} {ifs : List Expr} {pos : Pos} {it : EI} {is : List Nat} {gs : EV.D → Frm → Sto → Option Frm} {ts : ET} {es : EX}
theorem gts_nil : GTs G X [] xYes := by
  intro Wx tk
  refine ⟨fun pins s σ H Q I q => pts_nil.run pins s σ H Q I ?_⟩
  obtain ⟨ρ, S, W, E, R, h⟩ := q
  exact h H W (.refl _ _) R
theorem gts_one (h : GT G X c ts) : GTs G X [c] ts := fun Wx tk => pts_one (h Wx tk)
theorem wipe_chg {σ σ' : L2.St} : ∀ {own is : List Nat}, Chg is σ σ' → (∀ i ∈ is, i ∈ own) → wipe σ' own = wipe σ own := by
  intro own is h hs
  have len : ∀ (τ : L2.St), (wipe τ own).length = τ.length := fun τ => wipe_length τ own
  have val : ∀ (τ : L2.St) (o : List Nat) (j : Nat), (wipe τ o)[j]? = if j ∈ o then (if j < τ.length then some none else none) else τ[j]? := by
    intro τ o
    induction o with
    | nil => intro j; simp [wipe]
    | cons a o ih =>
      intro j
      rw [wipe]
      by_cases z : j = a
      · subst z
        by_cases hl : j < τ.length
        · rw [List.getElem?_set_self (by rw [wipe_length]; exact hl)]
          simp [hl]
        · rw [List.getElem?_eq_none (by rw [List.length_set, wipe_length]; omega)]
          simp [hl]
      · rw [List.getElem?_set_ne (Ne.symm z), ih]
        simp [z]
  apply List.ext_getElem?
  intro j
  rw [val, val]
  by_cases hj : j ∈ own
  · simp only [hj, if_true]
    rw [h.1]
  · simp only [hj, if_false]
    exact h.2 j fun z => hj (hs j z)
theorem lc_imp {Wx : WX} {own : List (Str × Nat)} (hw : ∀ i ∈ is, i ∈ own.map (·.2)) (σ : L2.St) (H : Hp) (Q : VK) (hh : tF G X.K Wx (xLc it gs ts es (own.map (·.2))) σ H Q) :
    tLc (tI G X.K Wx it) (tGg G X.K is gs) (tT G X.K (fun _ _ _ _ => False) ts) (tE G X.K (fun _ _ _ _ => False) es) (own.map (·.2)) σ H Q := by
  obtain ⟨ρ, S, W, E, R, h⟩ := hh
  refine ⟨ρ, S, W, E, R, ?_⟩
  unfold xLc at h
  generalize it ρ S = r at h ⊢
  match r, h with
  | none, h => exact h.elim
  | some (.error e, S'), h => exact h
  | some (.ok (ds, g), S1), h =>
    intro J H1 W1 T1 R1 ⟨Gd, Y, wk, hG, hY⟩ D hD
    have h : PostF G X.K Wx σ Q W H (if ds.length ≤ cap then match lcLoop g gs ts es ds (wipeF ρ (own.map (·.2))) S1 with
      | some (ys, S2) => some (.ok ys, S2)
      | none => none
    else none) := h
    split at h
    · rename_i hcap
      obtain ⟨T2, R2, L2⟩ := R1.new hD (.lst [])
      have E1 : RE X.K W1 (wipeF ρ (own.map (·.2))) (wipe σ (own.map (·.2))) := (E.mono T1.le).wipe _
      have h0 : H D = none := T1.free R1 hD
      refine lc_it wk (fun i H' => ∃ S' W' acc vs, Stp W H W' H' ∧ W1.le W' ∧ RS G X.K W' S' H' ∧ Lone W' D ∧ H' D = some (.lst vs) ∧ Reps X.K W' acc vs ∧ acc.length ≤ i ∧
          PostF G X.K Wx σ Q W H (match lcLoop g gs ts es (ds.drop i) (wipeF ρ (own.map (·.2))) S' with
            | some (ys, S2) => some (.ok (acc ++ ys), S2)
            | none => none)) ⟨S1, W1, [], [], T1.trans T2, .refl _, R2, L2, upd_same, .nil, Nat.le_refl _, h⟩ ?_ ?_ ?_
      · rintro i H' hi ⟨S', W', acc, vs, T', le, R', L', e', r', hl, q⟩
        refine hG W' S' H' le R' ?_
        generalize ds.drop i = l at q
        cases l with
        | nil =>
          rw [lcLoop] at q
          by_cases c : g S'
          · exact c
          · rw [if_neg c] at q; exact q.elim
        | cons d l =>
          rw [lcLoop] at q
          by_cases c : g S'
          · exact c
          · rw [if_neg c] at q; exact q.elim
      · rintro i x H' H2 hi ⟨S', W', acc, vs, T', le, R', L', e', r', hl, q⟩ y
        rw [List.drop_eq_getElem_cons hi, lcLoop] at q
        by_cases gS : g S'
        · rw [if_pos gS] at q
          obtain ⟨W3, d, T3, R3, hd, rd⟩ := hY i H' x H2 W' S' le R' gS hi y
          rw [List.getElem?_eq_getElem hi] at hd
          cases hd
          generalize z1 : gs ds[i] (wipeF ρ (own.map (·.2))) S' = o1 at q
          match o1, q with
          | none, q => exact q.elim
          | some ρ1, q =>
            refine ⟨_, _, S', W3, (E1.mono le).mono T3.le, R3, rd, ρ1, z1, fun σ2 E2 ch => ⟨?_, ρ1, S', W3, E2, R3, ?_⟩⟩
            · rw [wipe_chg ch hw]
              apply wipe_chg (own := own.map (·.2)) (is := own.map (·.2))
              · have val : ∀ (o : List Nat), Chg o σ (wipe σ o) := by
                  intro o
                  induction o with
                  | nil => exact ⟨rfl, fun _ _ => rfl⟩
                  | cons a o ih =>
                    refine ⟨by rw [wipe, List.length_set]; exact ih.1, fun j hj => ?_⟩
                    rw [wipe, List.getElem?_set_ne (fun z => hj (by simp [z]))]
                    exact ih.2 j fun z => hj (List.mem_cons_of_mem _ z)
                exact val _
              · exact fun _ z => z
            · dsimp only at q
              generalize ts ρ1 S' = o2 at q ⊢
              match o2, q with
              | none, q => exact q.elim
              | some (.error _, _), q => exact q.elim
              | some (.ok false, S4), q =>
                intro H4 W4 T4 R4
                have TT := T3.trans T4
                obtain ⟨e4, L4⟩ := TT.lone D _ e' L'
                exact iteF ⟨S4, W4, acc, vs, T'.trans TT, le.trans TT.le, R4, L4, e4, r'.mono TT.le, by omega, q⟩
              | some (.ok true, S4), q =>
                intro H4 W4 T4 R4
                refine iteT ⟨ρ1, S4, W4, E2.mono T4.le, R4, ?_⟩
                dsimp only at q
                generalize es ρ1 S4 = o3 at q ⊢
                match o3, q with
                | none, q => exact q.elim
                | some (.error _, _), q => exact q.elim
                | some (.ok yd, S5), q =>
                  intro yv H5 W5 T5 R5 ry
                  have TT := (T3.trans T4).trans T5
                  obtain ⟨e5, L5⟩ := TT.lone D _ e' L'
                  refine ⟨vs, e5, ?_, ?_⟩
                  · have : vs.length ≤ i := by rw [← r'.length]; exact hl
                    have h2 := cap_le
                    omega
                  · have R6 := R5.lone L5 (.lst (vs ++ [yv]))
                    refine ⟨S5, W5, acc ++ [yd], vs ++ [yv], ⟨(T'.trans TT).le, fun b u hb lb => ?_⟩, le.trans TT.le, R6, L5, upd_same, (r'.mono TT.le).append (.cons ry .nil), by rw [List.length_append]; simp; omega, ?_⟩
                    · obtain ⟨q1, q2⟩ := (T'.trans TT).lone b u hb lb
                      exact ⟨by rw [upd_ne (ne_of_none hb h0)]; exact q1, q2⟩
                    · have q' : PostF G X.K Wx σ Q W H (match (match lcLoop g gs ts es (ds.drop (i + 1)) (wipeF ρ (own.map (·.2))) S5 with
                          | some (ys, S3) => some (yd :: ys, S3)
                          | none => none) with
                        | some (ys, S2) => some (.ok (acc ++ ys), S2)
                        | none => none) := q
                      generalize lcLoop g gs ts es (ds.drop (i + 1)) (wipeF ρ (own.map (·.2))) S5 = o4 at q' ⊢
                      match o4, q' with
                      | none, q' => exact q'
                      | some (ys, S3), q' =>
                        dsimp only at q' ⊢
                        rw [List.append_assoc, List.singleton_append]
                        exact q'
        · rw [if_neg gS] at q
          exact q.elim
      · rintro H' ⟨S', W', acc, vs, T', le, R', L', e', r', hl, q⟩
        rw [List.drop_eq_nil_of_le (Nat.le_refl _), lcLoop] at q
        by_cases gS : g S'
        · rw [if_pos gS] at q
          dsimp only at q
          rw [List.append_nil] at q
          exact q D vs H' W' T' R' h0 L' e' r'
        · rw [if_neg gS] at q
          exact q.elim
    · exact h.elim
theorem gf_lc {scope : Scope} {own : List (Str × Nat)} (C : Ctx X) (hi : GI G X tg iter it) (ok : BlkOk X.N X.env.scope scope own)
    (hg : ∀ (s : Shared) (H : Hp) (C : Addr) (cl : List (Str × Addr)) (fp : List Addr), GG G (X.blk s H scope (compEnvC scope cl C X.env) fp) tg is gs)
    (ht : ∀ (s : Shared) (H : Hp) (C : Addr) (cl : List (Str × Addr)) (fp : List Addr), GTs G (X.blk s H scope (compEnvC scope cl C X.env) fp) ifs ts)
    (he : ∀ (s : Shared) (H : Hp) (C : Addr) (cl : List (Str × Addr)) (fp : List Addr), GE G (X.blk s H scope (compEnvC scope cl C X.env) fp) elt es)
    (hw : ∀ i ∈ is, i ∈ own.map (·.2)) (hs : ∀ x, foldedSetIterable iter X.env x = pure x := by intro _; rfl) :
    GF G X (.ListComp elt [⟨tg, iter, ifs, 0⟩] scope pos) (xLc it gs ts es (own.map (·.2))) := by
  intro Wx tk
  exact pe_imp (pe_lc (g := tGg G X.K is gs) (tt := tT G X.K (fun _ _ _ _ => False) ts) (te := tE G X.K (fun _ _ _ _ => False) es) C.calm C.nd (hi Wx tk) ok (fun s H C cl fp => hg s H C cl fp) (fun s H C cl fp => ht s H C cl fp _ takes0) (fun s H C cl fp => he s H C cl fp _ takes0) hs) (lc_imp hw)
/-- name = [..], on one line: as a value for ever; as a cell -/
theorem gs_setLcF {i : Nat} {y : Str} {py spos : Pos} {scope : Scope} {own : List (Str × Nat)} (C : Ctx X) (hy : X.N[i]? = some y) (hyl : X.env.scope.names.lookup y = some .local)
    (hsw : swapsWith (.ListComp elt [⟨tg, iter, ifs, 0⟩] scope pos) (some (.Name y py)) spos.line X.env = pure true) (hi : GI G X tg iter it) (ok : BlkOk X.N X.env.scope scope own)
    (hg : ∀ (s : Shared) (H : Hp) (C : Addr) (cl : List (Str × Addr)) (fp : List Addr), GG G (X.blk s H scope (compEnvC scope cl C X.env) fp) tg is gs)
    (ht : ∀ (s : Shared) (H : Hp) (C : Addr) (cl : List (Str × Addr)) (fp : List Addr), GTs G (X.blk s H scope (compEnvC scope cl C X.env) fp) ifs ts)
    (he : ∀ (s : Shared) (H : Hp) (C : Addr) (cl : List (Str × Addr)) (fp : List Addr), GE G (X.blk s H scope (compEnvC scope cl C X.env) fp) elt es)
    (hw : ∀ i ∈ is, i ∈ own.map (·.2)) (hs : ∀ x, foldedSetIterable iter X.env x = pure x := by intro _; rfl) :
    GS G X (.Assign [.Name y py] (.ListComp elt [⟨tg, iter, ifs, 0⟩] scope pos) spos) (xSet i (xFrz (xLc it gs ts es (own.map (·.2))))) := by
  intro Wx tk
  refine ps_imp (ps_setLc (g := tGg G X.K is gs) (tt := tT G X.K (fun _ _ _ _ => False) ts) (te := tE G X.K (fun _ _ _ _ => False) es) C.calm C.nd hy hyl hsw (hi Wx tk) ok (fun s H C cl fp => hg s H C cl fp) (fun s H C cl fp => ht s H C cl fp _ takes0) (fun s H C cl fp => he s H C cl fp _ takes0) hs) ?_
  rintro D σ H ⟨ρ, S, W, E, R, h⟩
  refine lc_imp hw σ H _ ⟨ρ, S, W, E, R, ?_⟩
  unfold xSet xFrz at h
  generalize xLc it gs ts es (own.map (·.2)) ρ S = r at h ⊢
  match r, h with
  | none, h => exact h.elim
  | some (.error e, S1), h => exact fun cls dx H' W' T R' er => h cls dx σ H' W' T (E.mono T.le) R' er
  | some (.ok ds, S1), h =>
    intro p vs H1 W1 T1 R1 h0 L e r
    obtain ⟨W3, le3, T3, R3, e3⟩ := R1.frz T1 h0 L e
    exact h _ _ W3 T3 ((E.mono T3.le).set (.lst e3 (r.mono le3)) i) R3
theorem gs_setLcC {i : Nat} {y : Str} {py spos : Pos} {scope : Scope} {own : List (Str × Nat)} (C : Ctx X) (hy : X.N[i]? = some y) (hyl : X.env.scope.names.lookup y = some .local)
    (hsw : swapsWith (.ListComp elt [⟨tg, iter, ifs, 0⟩] scope pos) (some (.Name y py)) spos.line X.env = pure true) (hi : GI G X tg iter it) (ok : BlkOk X.N X.env.scope scope own)
    (hg : ∀ (s : Shared) (H : Hp) (C : Addr) (cl : List (Str × Addr)) (fp : List Addr), GG G (X.blk s H scope (compEnvC scope cl C X.env) fp) tg is gs)
    (ht : ∀ (s : Shared) (H : Hp) (C : Addr) (cl : List (Str × Addr)) (fp : List Addr), GTs G (X.blk s H scope (compEnvC scope cl C X.env) fp) ifs ts)
    (he : ∀ (s : Shared) (H : Hp) (C : Addr) (cl : List (Str × Addr)) (fp : List Addr), GE G (X.blk s H scope (compEnvC scope cl C X.env) fp) elt es)
    (hw : ∀ i ∈ is, i ∈ own.map (·.2)) (hs : ∀ x, foldedSetIterable iter X.env x = pure x := by intro _; rfl) :
    GS G X (.Assign [.Name y py] (.ListComp elt [⟨tg, iter, ifs, 0⟩] scope pos) spos) (xSet i (xCel (xLc it gs ts es (own.map (·.2))))) := by
  intro Wx tk
  refine ps_imp (ps_setLc (g := tGg G X.K is gs) (tt := tT G X.K (fun _ _ _ _ => False) ts) (te := tE G X.K (fun _ _ _ _ => False) es) C.calm C.nd hy hyl hsw (hi Wx tk) ok (fun s H C cl fp => hg s H C cl fp) (fun s H C cl fp => ht s H C cl fp _ takes0) (fun s H C cl fp => he s H C cl fp _ takes0) hs) ?_
  rintro D σ H ⟨ρ, S, W, E, R, h⟩
  refine lc_imp hw σ H _ ⟨ρ, S, W, E, R, ?_⟩
  unfold xSet xCel at h
  generalize xLc it gs ts es (own.map (·.2)) ρ S = r at h ⊢
  match r, h with
  | none, h => exact h.elim
  | some (.error e, S1), h => exact fun cls dx H' W' T R' er => h cls dx σ H' W' T (E.mono T.le) R' er
  | some (.ok ds, S1), h =>
    intro p vs H1 W1 T1 R1 h0 L e r
    obtain ⟨W3, le3, T3, R3, e3⟩ := R1.cell T1 h0 L (c := .lst ds) ⟨vs, e, r⟩
    exact h _ _ W3 T3 ((E.mono T3.le).set (.cell e3) i) R3
end
end EV

/-! E6: defs and their calls; attributes; objects made. -/
namespace EV
open PySem PySem.Spec PyProof.Rows L2

/-- what a def promises: its function of data and store -/
def spG (G : Sig) (K : PySem.W.Frag) (n : Nat) (fn : Fn) : Sp := fun vs H Q E => ∃ ds S W, Reps K W ds vs ∧ ds.length = n ∧ RS G K W S H ∧ PostE G K (fun cls d _ H' => E cls d H') [] Q W H (fn ds S)
/-- as FnOk, where no repr is under way -/
structure FG (P : Program) (w : World) (K : PySem.W.Frag) (mg : Str → Option Value) (base : Heap) (k : Nat) (f : Addr) (fd : FuncData) (ps : List Str) (sp : Sp) : Prop where
  len : ∀ vs H Q E, sp vs H Q E → vs.length = ps.length
  run : ∀ (A : Around) (fs : List Env) (s : Shared) (H : Hp) (args : Args) (us : List Value) (vs : List V) (Q : VK) (E : XK), Room k A → A.guards = some [] → Env0 P w K mg base A fs s H → BindsTo s fd args (ps.zip us) → Vals vs us → sp vs H Q E →
    codeAny (model P w) A (.call (.ref f) args) (CR (L2.CX P w) fs P w H s Q E) s
section
variable {P : Program} {w : World} {K : PySem.W.Frag} {mg : Str → Option Value} {base : Heap} {j k : Nat} {f : Addr} {fd : FuncData} {ps : List Str} {sp sp' : Sp}
theorem FG.mono (F : FG P w K mg base j f fd ps sp) (h : j ≤ k) : FG P w K mg base k f fd ps sp :=
  ⟨F.len, fun A fs s H args us vs Q E hr => F.run A fs s H args us vs Q E (hr.mono h)⟩
theorem FG.imp (F : FG P w K mg base k f fd ps sp) (h : ∀ vs H Q E, sp' vs H Q E → sp vs H Q E) : FG P w K mg base k f fd ps sp' :=
  ⟨fun vs H Q E q => F.len vs H Q E (h _ _ _ _ q), fun A fs s H args us vs Q E hr hg he hb hv hs => F.run A fs s H args us vs Q E hr hg he hb hv (h _ _ _ _ hs)⟩
end
def endF : Option Out → Res D
  | some (.nx _ S) => some (.ok .non, S)
  | some (.rt d S) => some (.ok d, S)
  | some (.er e _ S) => some (.error e, S)
  | _ => none
/-- a def's function, by its body: n parameters among m names -/
def fnOf (n m : Nat) (g : ES) : Fn := fun ds S => if ds.length = n then endF (g (ds.map some ++ List.replicate (m - n) none) S) else none
theorem reStart {K : PySem.W.Frag} {W : Wd} {ds : List D} {vs : List V} {N : List Str} (r : Reps K W ds vs) : RE K W (ds.map some ++ List.replicate (N.length - ds.length) none) (L2.start N vs) := by
  have hl := r.length
  refine ⟨by unfold L2.start; simp [hl], fun i d h => ?_⟩
  have hi : i < ds.length := by
    by_cases hi : i < ds.length
    · exact hi
    · rw [List.getElem?_append_right (by simpa using hi), List.getElem?_replicate] at h
      split at h <;> cases h
  rw [List.getElem?_append_left (by simpa using hi), List.getElem?_map] at h
  cases e : ds[i]? with
  | none => rw [e] at h; cases h
  | some x =>
    rw [e] at h
    cases h
    obtain ⟨v, h1, h2⟩ := r.get e
    refine ⟨v, ?_, h2⟩
    unfold L2.start
    rw [List.getElem?_append_left (by simp; omega), List.getElem?_map, h1]
    rfl
theorem Stp.toOut {G : Sig} {K : PySem.W.Frag} {E : XK} {Q : VK} {W : Wd} {H : Hp} {o : Option Out} (h : PostE G K (fun cls d _ H' => E cls d H') [] Q W H (endF o)) : PostS G K (fun cls d _ H' => E cls d H') { nx := fun _ H' => Q .non H', rt := Q } W H o := by
  match o, h with
  | none, h => exact h.elim
  | some (.nx ρ S), h => exact fun σ' H' W' T E R => h .non H' W' T R .non
  | some (.rt d S), h => exact h
  | some (.er e ρ S), h => exact fun cls dx σ' H' W' T E R er => h cls dx H' W' T R er
  | some (.bk ρ S), h => exact h.elim
  | some (.ct ρ S), h => exact h.elim
/-- THE RULE of a def -/
theorem fg_of {P : Program} {w : World} {K : PySem.W.Frag} {mg : Str → Option Value} {base : Heap} {G : Sig} {x qual : Str} {st : Stmt} {f : Addr} {fd : FuncData} {N ps : List Str} {k : Nat} {g : ES} (F : Fun K x qual st f fd) (S : FnScope N ps (defScope st))
    (hbody : ∀ (cdv : Value) (A : Around) (fs : List Env) (s : Shared) (H : Hp) (E : XK), Room k (A.deeper (envOfC qual (defScope st) s.heap.objs.size f cdv)) → Ctx (cxOf (L2.CX P w) P w K mg base N qual (defScope st) f cdv A fs s H E) →
      GB G (cxOf (L2.CX P w) P w K mg base N qual (defScope st) f cdv A fs s H E) (defBody st) g) :
    FG P w K mg base (k + 1) f fd ps (spG G K ps.length (fnOf ps.length N.length g)) := by
  obtain ⟨oc, od, kV, doc, pm, an, cdv, ct, osl, rfl, lk, hcd⟩ := F.ex
  have len : ∀ vs H Q E, spG G K ps.length (fnOf ps.length N.length g) vs H Q E → vs.length = ps.length := by
    rintro vs H Q E ⟨ds, S0, W, r, hl, _⟩
    rw [← r.length]; exact hl
  refine ⟨len, fun A fs s H args us vs Q E hr hgd e0 hb rv hsp => ?_⟩
  have hl := len _ _ _ _ hsp
  have kx : K.In s.heap :=
    e0.mod.kin.keeps fun b o e => (e0.bs b o e).1
  have lm : s.heap.NoLimit :=
    e0.mod.nolimit.keeps fun b o e => (e0.bs b o e).1
  have hkd : ∀ y ∈ ps.zip us, (defScope st).names.lookup y.1 = some .local ∨
      ((defScope st).names.lookup y.1 = some .cell ∧ ((cellsFrom (s.heap.objs.size + 1) (defScope st).names []).lookup y.1).isSome = true) := fun ⟨n, v⟩ hy => by
    rcases S.par n (List.of_mem_zip hy).1 with z | z
    · exact .inl z
    · exact .inr ⟨z, PySem.W.cellsFrom_some _ _ _ (.inl z)⟩
  refine codeAny_call_function hr.depth (kx _ _ lk) rfl S.co S.gen rfl (PySem.W.codeRec_of kx hcd) (hb _ _ _ _
    (wpAny_newFunctionEnv_cells S.kind hkd fun env he s1 hx => ?_))
  subst he
  refine ⟨lm.keeps hx.toInCall.keep, codeAny_func ?_⟩
  have hr' := hr.deeper (envOfC qual (defScope st) s.heap.objs.size f cdv)
  have C : Ctx (cxOf (L2.CX P w) P w K mg base N qual (defScope st) f cdv A fs s H E) :=
    ⟨rfl, passes_of rfl, hgd, S.nd, by
      have := hr'.un
      show (A.deeper _).units + 150 < cLine
      omega⟩
  have I : Inv (cxOf (L2.CX P w) P w K mg base N qual (defScope st) f cdv A fs s H E) [] (L2.start N vs) H s1 :=
    inv_start S hr.hd e0 hl rv hx
  obtain ⟨ds, S0, W, r, hdl, R, post⟩ := hsp
  unfold fnOf at post
  rw [if_pos hdl] at post
  have RE0 : RE K W (ds.map some ++ List.replicate (N.length - ps.length) none) (L2.start N vs) := by
    rw [← hdl]; exact reStart r
  have body := (hbody cdv A fs s H E hr' C _ (takes_of rfl rfl rfl rfl)).run [] s1 (L2.start N vs) H { nx := fun _ H' => Q .non H', rt := Q } I ⟨_, S0, W, RE0, R, Stp.toOut post⟩
  refine wpAny_mono body (fun fl s' hs => ?_) fun e s' hs => hs
  cases fl with
  | ret u =>
    obtain ⟨v, σ', H', J, rv', q⟩ := hs
    exact ⟨v, H', J.os, J.bare, J.base, J.hok, rv', q⟩
  | next =>
    obtain ⟨σ', H', J, q⟩ := hs
    exact ⟨.non, H', J.os, J.bare, J.base, J.hok, rfl, q⟩
  | brk =>
    obtain ⟨_, _, _, q⟩ := hs
    exact q.elim
  | cont =>
    obtain ⟨_, _, _, q⟩ := hs
    exact q.elim
noncomputable section
open Classical in
/-- the cells that a def made go at its end -/
def cutF (fn : Fn) : Fn := fun ds S => match fn ds S with
  | some (r, S') => if S.length ≤ S'.length ∧ (S'.take S.length).all (lowS S.length) = true ∧ (match r with
      | .ok d => D.low S.length d = true
      | .error e => D.low S.length e.2 = true) then some (r, S'.take S.length) else none
  | none => none
end
theorem FG.cut {P : Program} {w : World} {K : PySem.W.Frag} {mg : Str → Option Value} {base : Heap} {G : Sig} {k n : Nat} {f : Addr} {fd : FuncData} {ps : List Str} {fn : Fn} (F : FG P w K mg base k f fd ps (spG G K n fn)) : FG P w K mg base k f fd ps (spG G K n (cutF fn)) := by
  refine F.imp ?_
  rintro vs H Q E ⟨ds, S, W, r, hl, R, post⟩
  refine ⟨ds, S, W, r, hl, R, ?_⟩
  unfold cutF at post
  generalize fn ds S = z at post ⊢
  match z, post with
  | none, post => exact post.elim
  | some (.ok d, S'), post =>
    dsimp only at post
    split at post
    · rename_i c
      intro v H' W' T R' r'
      obtain ⟨W2, T2, R2, hr, _⟩ := R'.trunc T R.len c.1 c.2.1
      exact post v H' W2 T2 R2 (hr d v r' c.2.2)
    · exact post.elim
  | some (.error e, S'), post =>
    dsimp only at post
    split at post
    · rename_i c
      rintro cls dx H' W' T R' ⟨e1, a, v, e2, e3, e4⟩
      obtain ⟨W2, T2, R2, hr, _, _, hH⟩ := R'.trunc T R.len c.1 c.2.1
      exact post cls dx H' W2 T2 R2 ⟨e1, a, v, e2, by rw [hH]; exact e3, hr e.2 v e4 c.2.2⟩
    · exact post.elim

/-! ### calls -/
section
variable {G : Sig} {X : Cx} {k n : Nat} {f C : Addr} {fd : FuncData} {ps : List Str} {sp : Sp} {fn : Fn} {Wx : WX} {x m : Str} {p pos apos : Pos} {e o : Expr} {es : List Expr} {ta : TE} {t : TA} {fr : EA} {fo : EX}
theorem run_fg {pins : List (Addr × Obj)} {σ : L2.St} {H : Hp} {s : Shared} {Q : VK} {us : List Value} {vs : List V} (F : FG X.prog X.w X.K X.mg X.base k f fd ps sp) (hr : Room k X.A) (hgd : X.A.guards = some []) (hb : Binds X.K fd ps []) (tk : Takes X Wx)
    (I : Inv X pins σ H s) (r : Vals vs us) (h : sp vs H Q (WE Wx σ)) : wpAny (model X.prog X.w) X.A (call (.ref f) us) (EP X pins σ Q) X.xe s := by
  have hl : us.length = ps.length := by
    rw [← r.length]
    exact F.len _ _ _ _ h
  have b := hb s us I.kIn (by rw [List.append_nil]; exact hl)
  rw [List.append_nil] at b
  refine wpAny_call (codeAny_mono (F.run X.A X.stack s H ⟨us, []⟩ us vs Q (WE Wx σ) hr hgd I.env0 b r h) fun z s' hq => ?_)
  match z, hq with
  | .error er, hq => exact passAt tk σ pins H s er s' I hq
  | .ok (.ret u), hq => exact I.after hq
theorem spG_of {K : PySem.W.Frag} {σ : L2.St} {Q : VK} {W : Wd} {S : Sto} {H : Hp} {ds : List D} {vs : List V} (R : RS G K W S H) (r : Reps K W ds vs) (hl : ds.length = n) (h : PostE G K Wx σ Q W H (fn ds S)) : spG G K n fn vs H Q (WE Wx σ) := by
  refine ⟨ds, S, W, r, hl, R, ?_⟩
  generalize fn ds S = z at h ⊢
  match z, h with
  | none, h => exact h
  | some (.ok d, S'), h => exact h
  | some (.error e, S'), h => exact h
/-- the number of arguments must be right -/
def xCall (n : Nat) (fn : Fn) (fr : EA) : EX := fun ρ S => bnd (fr ρ S) fun ds S1 => if ds.length = n then fn ds S1 else none
theorem ge_call (Cc : Ctx X) (F : FG X.prog X.w X.K X.mg X.base k f fd ps (spG G X.K n fn)) (hr : Room k X.A) (hg : Gl X x) (hm : X.mg x = some (.ref f)) (hk : PySem.W.keepIn X.K (.ref f) = true) (hb : Binds X.K fd ps [])
    (ha : GA G X (e :: es) fr) (hdb : (x == ("__debug__" : Str)) = false := by decide) (he : starEach (e :: es) X.env = (false, eval e X.env) :: starEach es X.env := by rfl) (hpl : (backTo pos (starEach es X.env)).any (·.1) = false := by rfl) :
    GE G X (.Call (.Name x p) (e :: es) [] pos) (xCall n fn fr) := by
  intro Wx tk
  refine ⟨fun pins s σ H Q I h => wpAny_Call_Name_kw (ld_glob I hg hm ?_ hdb)⟩
  obtain ⟨ρ, S, W, E, R, h⟩ := h
  have h' := tA_of (Q' := fun vs H1 => spG G X.K n fn vs H1 Q (WE Wx σ)) pkE E R h fun ds S1 vs H1 W1 T1 E1 R1 r1 h1 => by
    split at h1
    · rename_i hl
      exact spG_of R1 r1 hl h1
    · exact h1.elim
  refine PySem.W.callWith_K (h₀ := X.base) I.ok.mod.kin hk
    (thn ((ha Wx tk).run pos pins s σ H _ I h') fun us s1 ⟨vs, H1, I1, r, q⟩ => ⟨I1.kIn, ?_⟩) he hpl
  exact run_fg F hr Cc.grd hb tk I1 r q
theorem ge_call0 (Cc : Ctx X) (F : FG X.prog X.w X.K X.mg X.base k f fd ps (spG G X.K 0 fn)) (hr : Room k X.A) (hg : Gl X x) (hm : X.mg x = some (.ref f)) (hk : PySem.W.keepIn X.K (.ref f) = true) (hb : Binds X.K fd ps [])
    (hdb : (x == ("__debug__" : Str)) = false := by decide) : GE G X (.Call (.Name x p) [] [] pos) (xCall 0 fn xNil) := by
  intro Wx tk
  refine ⟨fun pins s σ H Q I h => wpAny_Call_Name_kw (ld_glob I hg hm ?_ hdb)⟩
  obtain ⟨ρ, S, W, E, R, h⟩ := h
  exact PySem.W.callWith_K0 I.kIn hk (run_fg (us := []) F hr Cc.grd hb tk I .nil (spG_of R .nil rfl h))
/-! ### keywords alone -/
def gxs {α : Type} (pm : List Nat) (l : List α) : List α := pm.filterMap fun j => l[j]?
theorem valsGxs {vs : List V} {us : List Value} (r : Vals vs us) : ∀ pm : List Nat, Vals (gxs pm vs) (gxs pm us)
  | [] => .nil
  | j :: pm => by
    have ih := valsGxs r pm
    unfold EV.gxs at ih ⊢
    rw [List.filterMap_cons, List.filterMap_cons]
    cases q : vs[j]? with
    | none => rw [r.none_of q]; exact ih
    | some v =>
      obtain ⟨u, h1, h2⟩ := r.get q
      rw [h1]
      exact .cons h2 ih
theorem Reps.gxs {K : PySem.W.Frag} {W : Wd} {ds : List D} {vs : List V} (r : Reps K W ds vs) : ∀ pm : List Nat, Reps K W (gxs pm ds) (gxs pm vs)
  | [] => .nil
  | j :: pm => by
    have ih := Reps.gxs r pm
    unfold EV.gxs at ih ⊢
    rw [List.filterMap_cons, List.filterMap_cons]
    cases q : ds[j]? with
    | none =>
      have : vs[j]? = none := by
        rw [List.getElem?_eq_none_iff] at q ⊢
        rw [← r.length]; exact q
      rw [this]; exact ih
    | some d =>
      obtain ⟨u, h1, h2⟩ := r.get q
      rw [h1]
      exact .cons h2 ih
/-- how keywords (in the sequence of ks) come to the parameters -/
def KB (K : PySem.W.Frag) (fd : FuncData) (ps ks : List Str) (pm : List Nat) : Prop := ∀ (s : Shared) (ws : List Value), K.In s.heap → ws.length = ks.length → (gxs pm ws).length = ps.length → BindsTo s fd ⟨[], ks.zip ws⟩ (ps.zip (gxs pm ws))
theorem _root_.L2.Fun.kb {K : PySem.W.Frag} {x qual : Str} {st : Stmt} {f : Addr} {fd : FuncData} {ps ks : List Str} {pm : List Nat} (F : Fun K x qual st f fd)
    (h : ∀ (kV doc pmv : Value) (an : Option Addr) (cdv ct : Value) (ws : List Value), ws.length = ks.length → bindArgs (PySem.W.fnOf x qual (defArgs st) (defBody st) (defScope st) .none kV doc pmv an cdv ct) ⟨[], ks.zip ws⟩ = pure (ps.zip (gxs pm ws))) : KB K fd ps ks pm := by
  obtain ⟨oc, od, kV, doc, pmv, an, cdv, ct, osl, rfl, lk, hcd⟩ := F.ex
  exact fun s ws _ hl _ => .of_eq (h kV doc pmv an cdv ct ws hl)
variable {kws : List Keyword} {ks : List Str} {pm : List Nat} {tks : TA}
theorem pk_imp {t t' : TA} (h : PK X kws t) (i : ∀ σ H Q, t' σ H Q → t σ H Q) : PK X kws t' := ⟨fun pos pins s σ H Q I q => h.run pos pins s σ H Q I (i _ _ _ q)⟩
def GK (G : Sig) (X : Cx) (kws : List Keyword) (f : EA) : Prop := ∀ Wx, Takes X Wx → PK X kws (tA G X.K Wx f)
theorem gk_nil : GK G X [] xNil := by
  intro Wx tk
  refine pk_imp pk_nil ?_
  rintro σ H Q ⟨ρ, S, W, E, R, h⟩
  exact h [] H W (.refl _ _) R .nil
theorem gk_cons {nm : Option Str} {kpos : Pos} {a : Expr} {fa : EX} (ha : GE G X a fa) (hr : GK G X kws fr) : GK G X (⟨nm, a, kpos⟩ :: kws) (xCons fa fr) := by
  intro Wx tk
  refine pk_imp (pk_cons (ha Wx tk) (hr Wx tk)) ?_
  rintro σ H Q ⟨ρ, S, W, E, R, h⟩
  exact tE_of pkA E R h fun x S1 u H1 W1 T1 E1 R1 r1 h1 => tA_of pkA E1 R1 h1 fun ys S2 vs H2 W2 T2 E2 R2 r2 h2 => h2 _ H2 W2 (.refl _ _) R2 (.cons (r1.mono T2.le) r2)
def xCallK (n m : Nat) (pm : List Nat) (fn : Fn) (fr : EA) : EX := fun ρ S => bnd (fr ρ S) fun ds S1 => if ds.length = m ∧ (gxs pm ds).length = n then fn (gxs pm ds) S1 else none
theorem ge_callK (Cc : Ctx X) (F : FG X.prog X.w X.K X.mg X.base k f fd ps (spG G X.K n fn)) (hr : Room k X.A) (hg : Gl X x) (hm : X.mg x = some (.ref f)) (hk : PySem.W.keepIn X.K (.ref f) = true) (hb : KB X.K fd ps ks pm)
    (hkw : GK G X kws fr) (hall : (backToKw pos (keywordEach kws X.env)).all (·.1.isSome) = true := by rfl) (hks : (backToKw pos (keywordEach kws X.env)).filterMap (·.1) = ks := by rfl)
    (hdb : (x == ("__debug__" : Str)) = false := by decide) (hpl : ((backTo pos (starEach [] X.env)).any (·.1) || (backToKw pos (keywordEach kws X.env)).any (·.1.isNone)) = false := by rfl) :
    GE G X (.Call (.Name x p) [] kws pos) (xCallK n ks.length pm fn fr) := by
  intro Wx tk
  refine ⟨fun pins s σ H Q I h => wpAny_Call_Name_kw (ld_glob I hg hm ?_ hdb)⟩
  obtain ⟨ρ, S, W, E, R, h⟩ := h
  have h' := tA_of (Q' := fun vs H1 => vs.length = ks.length ∧ spG G X.K n fn (gxs pm vs) H1 Q (WE Wx σ)) pkE E R h fun ds S1 vs H1 W1 T1 E1 R1 r1 h1 => by
    split at h1
    · rename_i hl
      exact ⟨by rw [← r1.length]; exact hl.1, spG_of R1 (r1.gxs pm) hl.2 h1⟩
    · exact h1.elim
  refine PySem.W.callWith_KW0 (h₀ := X.base) (first := []) I.ok.mod.kin hk hall
    (thn ((hkw Wx tk).run pos pins s σ H _ I h') fun ws s1 ⟨vs, H1, I1, r, hl, q⟩ => ⟨I1.kIn, ?_⟩) hpl
  rw [hks]
  have r2 : Vals (gxs pm vs) (gxs pm ws) := valsGxs r pm
  have hps : (gxs pm ws).length = ps.length := by
    rw [← r2.length]
    exact F.len _ _ _ _ q
  refine wpAny_call (codeAny_mono (F.run X.A X.stack s1 H1 ⟨[], ks.zip ws⟩ (gxs pm ws) (gxs pm vs) Q (WE Wx σ) hr Cc.grd I1.env0 (hb s1 ws I1.kIn (by rw [← r.length]; exact hl) hps) r2 q) fun z s' hq => ?_)
  match z, hq with
  | .error er, hq => exact passAt tk σ pins H1 s1 er s' I1 hq
  | .ok (.ret u), hq => exact I1.after hq

/-! ### an object's class -/
/-- d is an object of the class number c, with attributes: a cell; or a tag that stands for one -/
structure TagCls (G : Sig) (K : PySem.W.Frag) (t c : Nat) (at_ : Nat → D → Option D) : Prop where
  ins : ∀ d a o W, G.inv t d a o W → ∃ dx fv, o = .ins (G.cls c) dx fv ∧ (∀ i d', at_ i d = some d' → ∃ v, fv.lookup (G.fname i) = some v ∧ Rep K W d' v) ∧ ∀ m, (∀ i, i < G.nf → G.fname i ≠ m) → fv.lookup m = none
/-- the class of a thing -/
def clsD (tc : Nat → Option Nat) (S : Sto) : D → Option Nat
  | .cell n => match S[n]? with
    | some (some (.ins c _)) => some c
    | _ => none
  | .obj t _ => tc t
  | _ => none
theorem RepN.none {K : PySem.W.Frag} {W : Wd} {m : Str} (hm : ∀ i, i < G.nf → G.fname i ≠ m) : ∀ {fs : List (Nat × D)} {fv : List (Str × V)}, RepN G K W fs fv → fv.lookup m = none
  | _, _, .nil => rfl
  | _, _, .cons (a := p) (b := q) h r => by
    obtain ⟨h1, h2, _⟩ := h
    have ne : (m == q.1) = false := beq_eq_false_iff_ne.mpr fun z => hm p.1 h1 (by rw [h2, z])
    rw [List.lookup]
    rw [ne]
    exact RepN.none hm r
theorem RepN.get {K : PySem.W.Frag} {W : Wd} {i : Nat} (hi : i < G.nf) : ∀ {fs : List (Nat × D)} {fv : List (Str × V)} {d : D}, RepN G K W fs fv → fs.lookup i = some d → ∃ v, fv.lookup (G.fname i) = some v ∧ Rep K W d v
  | _, _, _, .nil, e => by cases e
  | _, _, d, .cons (a := p) (b := q) h r, e => by
    obtain ⟨h1, h2, h3⟩ := h
    obtain ⟨pn, pd⟩ := p
    obtain ⟨qn, qv⟩ := q
    by_cases z : i = pn
    · subst z
      rw [List.lookup_cons_self] at e
      cases e
      refine ⟨qv, ?_, h3⟩
      have h2' : G.fname i = qn := h2
      rw [h2', List.lookup_cons_self]
    · have ne : (i == pn) = false := beq_eq_false_iff_ne.mpr z
      have ne2 : (G.fname i == qn) = false := beq_eq_false_iff_ne.mpr fun w => z (G.inj i pn hi h1 (by rw [w]; exact h2.symm))
      rw [List.lookup] at e ⊢
      rw [ne] at e
      rw [ne2]
      exact RepN.get hi r e
def putN (i : Nat) (d : D) : List (Nat × D) → List (Nat × D)
  | [] => [(i, d)]
  | (j, x) :: r => if j = i then (j, d) :: r else (j, x) :: putN i d r
theorem RepN.put {K : PySem.W.Frag} {W : Wd} {i : Nat} (hi : i < G.nf) {d : D} {v : V} (hv : Rep K W d v) : ∀ {fs : List (Nat × D)} {fv : List (Str × V)}, RepN G K W fs fv → RepN G K W (putN i d fs) (putF (G.fname i) v fv)
  | _, _, .nil => .cons ⟨hi, rfl, hv⟩ .nil
  | _, _, .cons (a := p) (b := q) h r => by
    obtain ⟨h1, h2, h3⟩ := h
    obtain ⟨pn, pd⟩ := p
    obtain ⟨qn, qv⟩ := q
    have h2' : G.fname pn = qn := h2
    unfold putN putF
    by_cases z : pn = i
    · subst z
      rw [if_pos rfl, if_pos h2'.symm]
      exact .cons ⟨h1, h2, hv⟩ r
    · have ne2 : ¬ qn = G.fname i := fun w => z (G.inj pn i h1 hi (by rw [h2', w]))
      rw [if_neg z, if_neg ne2]
      exact .cons ⟨h1, h2, h3⟩ (RepN.put hi hv r)
theorem RepN.length {K : PySem.W.Frag} {W : Wd} {fs : List (Nat × D)} {fv : List (Str × V)} (r : RepN G K W fs fv) : fs.length = fv.length := Paired.length r
/-- the tags in use: each its class and its attributes -/
structure Tags (G : Sig) (K : PySem.W.Frag) (tc : Nat → Option Nat) (at_ : Nat → Nat → D → Option D) : Prop where
  ok : ∀ t c, tc t = some c → TagCls G K t c (at_ t)
variable {tc : Nat → Option Nat} {at_ : Nat → Nat → D → Option D}
theorem RS.cls {K : PySem.W.Frag} {W : Wd} {S : Sto} {H : Hp} (TG : Tags G K tc at_) (R : RS G K W S H) {d : D} {v : V} {c : Nat} (r : Rep K W d v) (e : clsD tc S d = some c) :
    ∃ a dx fv, v = .ref a ∧ H a = some (.ins (G.cls c) dx fv) ∧ ∀ m, (∀ i, i < G.nf → G.fname i ≠ m) → fv.lookup m = none := by
  cases r with
  | @cell a n h =>
    dsimp only [clsD] at e
    split at e
    · rename_i c' fs q
      cases e
      obtain ⟨a', h1, _, dx, fv, h3, h4⟩ := R.cl n _ q
      rw [h] at h1
      cases h1
      exact ⟨_, dx, fv, rfl, h3, fun m hm => RepN.none hm h4⟩
    · cases e
  | @obj a t d h =>
    obtain ⟨_, o, h2, h3⟩ := R.ob a t d h
    obtain ⟨dx, fv, rfl, _, h5⟩ := (TG.ok t c e).ins _ _ _ _ h3
    exact ⟨_, dx, fv, rfl, h2, h5⟩
  | _ => cases e
/-- e.f -/
def gFld (c i : Nat) (tc : Nat → Option Nat) (at_ : Nat → Nat → D → Option D) : D → Sto → Res D
  | .cell n, S => match S[n]? with
    | some (some (.ins c' fs)) => if c' = c then match fs.lookup i with
      | some d => some (.ok d, S)
      | none => none
      else none
    | _ => none
  | .obj t d, S => if tc t = some c then match at_ t i d with
      | some d' => some (.ok d', S)
      | none => none
      else none
  | _, _ => none
theorem ge_fld {i c : Nat} {fname : Str} (TG : Tags G X.K tc at_) (hf : G.fname i = fname) (hi : i < G.nf) (cl : Cls X.K (G.cls c)) (nA : NoAttr X.K (G.cls c) fname) (he : GE G X e fo) (hb : attributeBase e fname X.env (eval e X.env) = eval e X.env) :
    GE G X (.Attribute e fname pos) (xUn (gFld c i tc at_) fo) := by
  intro Wx tk
  refine pe_imp (pe_fld (he Wx tk) hb) ?_
  rintro σ H Q ⟨ρ, S, W, E, R, h⟩
  refine tE_of pkE E R h fun d S1 v H1 W1 T1 E1 R1 r1 h1 => ?_
  subst hf
  cases r1 with
  | @cell a n hn =>
    dsimp only [gFld] at h1
    split at h1
    · rename_i c' fs q
      split at h1
      · rename_i ec
        subst ec
        split at h1
        · rename_i d' e'
          obtain ⟨a', z1, _, dx, fv, z3, z4⟩ := R1.cl n _ q
          rw [hn] at z1
          cases z1
          obtain ⟨v, l, rv⟩ := RepN.get hi z4 e'
          exact ⟨a, _, dx, fv, v, rfl, z3, cl, nA, l, h1 v H1 W1 (.refl _ _) R1 rv⟩
        · exact h1.elim
      · exact h1.elim
    · exact h1.elim
  | @obj a t d h =>
    dsimp only [gFld] at h1
    split at h1
    · rename_i ec
      split at h1
      · rename_i d' e'
        obtain ⟨_, o, h2, h3⟩ := R1.ob a t d h
        obtain ⟨dx, fv, rfl, h4, _⟩ := (TG.ok t c ec).ins _ _ _ _ h3
        obtain ⟨v, l, rv⟩ := h4 i d' e'
        exact ⟨a, _, dx, fv, v, rfl, h2, cl, nA, l, h1 v H1 W1 (.refl _ _) R1 rv⟩
      · exact h1.elim
    · exact h1.elim
  | _ => exact h1.elim
/-- e.f = value, on a cell -/
def xSetF (c i : Nat) (fo fe : EX) : ES := fun ρ S => bndS (fe ρ S) ρ fun v S1 => bndS (fo ρ S1) ρ fun o S2 => match o with
  | .cell n => match S2[n]? with
    | some (some (.ins c' fs)) => if c' = c ∧ fs.length < 900 then some (.nx ρ (S2.set n (some (.ins c (putN i v fs))))) else none
    | _ => none
  | _ => none
theorem gs_fld {i c : Nat} {fname : Str} {pos' : Pos} {fe : EX} {value : Expr} (hf : G.fname i = fname) (hi : i < G.nf) (cl : Cls X.K (G.cls c)) (nA : NoAttr X.K (G.cls c) fname) (ho : GE G X o fo) (hv : GE G X value fe)
    (hs : swapsWith value (some (.Attribute o fname pos')) pos.line X.env = pure false := by rfl) : GS G X (.Assign [.Attribute o fname pos'] value pos) (xSetF c i fo fe) := by
  intro Wx tk
  refine ps_imp (ps_fld (ho Wx tk) (hv Wx tk) hs) ?_
  rintro D σ H ⟨ρ, S, W, E, R, h⟩
  subst hf
  refine tE_ofS E R h fun d S1 v H1 W1 T1 E1 R1 r1 h1 => ?_
  refine tE_ofS E1 R1 h1 fun d2 S2 v2 H2 W2 T2 E2 R2 r2 h2 => ?_
  split at h2
  · rename_i n
    split at h2
    · rename_i c' fs q
      split at h2
      · rename_i ec
        obtain ⟨ec1, ec2⟩ := ec
        subst ec1
        cases r2 with
        | cell hn =>
          obtain ⟨a', z1, _, dx, fv, z3, z4⟩ := R2.cl n _ q
          rw [hn] at z1
          cases z1
          have hlen := z4.length
          refine ⟨_, _, dx, fv, rfl, z3, cl, nA, by omega, ?_⟩
          obtain ⟨T3, R3⟩ := R2.put q hn (c' := .ins c' (putN i d fs)) (o := .ins (G.cls c') dx (putF (G.fname i) v fv)) ⟨dx, _, upd_same, RepN.put hi (r1.mono T2.le) z4⟩
          exact h2 σ _ W2 T3 E2 R3
      · exact h2.elim
    · exact h2.elim
  · exact h2.elim
/-- o.m(..) -/
def xMeth (tc : Nat → Option Nat) (c n : Nat) (fn : Fn) (fo : EX) (fr : EA) : EX := fun ρ S => bnd (fo ρ S) fun d S1 => if clsD tc S1 d = some c then bnd (fr ρ S1) fun ds S2 => if ds.length + 1 = n then fn (d :: ds) S2 else none else none
theorem ge_meth {c : Nat} {pl : Sem Bool} (Cc : Ctx X) (TG : Tags G X.K tc at_) (he : GE G X o fo) (cl : Cls X.K (G.cls c)) (hm : Meth X.K (G.cls c) m f) (hn : ∀ i, i < G.nf → G.fname i ≠ m) (F : FG X.prog X.w X.K X.mg X.base k f fd ps (spG G X.K n fn)) (hr : Room k X.A) (hb : Binds X.K fd ps [])
    (ha : GA G X (e :: es) fr) (hst : starEach (e :: es) X.env = (false, eval e X.env) :: starEach es X.env := by rfl) (hpl : (backTo pos (starEach es X.env)).any (·.1) = false := by rfl)
    (ht : eval (.Call (.Attribute o m apos) (e :: es) [] pos) X.env = (do
      let ov ← eval o X.env
      standAt apos.atName
      let (f, first) ← holding [ov] (getMethod ov m pl)
      callWith pos f first (backTo pos (starEach (e :: es) X.env)) (backToKw pos (keywordEach [] X.env))) := by rfl) :
    GE G X (.Call (.Attribute o m apos) (e :: es) [] pos) (xMeth tc c n fn fo fr) := by
  intro Wx tk
  refine ⟨fun pins s σ H Q I h => ?_⟩
  obtain ⟨ρ, S, W, E, R, h⟩ := h
  have h' : tE G X.K Wx fo σ H (fun x H1 => ∃ a dx fv, x = .ref a ∧ H1 a = some (.ins (G.cls c) dx fv) ∧ fv.lookup m = none ∧ tA G X.K Wx fr σ H1 (fun vs H2 => spG G X.K n fn (x :: vs) H2 Q (WE Wx σ))) :=
    tE_of pkE E R h fun d S1 v H1 W1 T1 E1 R1 r1 h1 => by
      split at h1
      · rename_i ec
        obtain ⟨a, dx, fv, rfl, e1, e2⟩ := RS.cls TG R1 r1 ec
        refine ⟨a, dx, fv, rfl, e1, e2 m hn, ?_⟩
        refine tA_of pkE E1 R1 h1 fun ds S2 vs H2 W2 T2 E2 R2 r2 h2 => ?_
        split at h2
        · rename_i hl
          exact spG_of R2 (.cons (r1.mono T2.le) r2) hl h2
        · exact h2.elim
      · exact h1.elim
  refine PySem.W.methodCall_KW (pl := pl) (thn ((he Wx tk).run pins s σ H _ I h') fun u s1 ⟨x, H1, I1, rx, a, dx, fv, ex, ea, l, q⟩ => ?_) ht
  subst ex
  obtain rfl : u = Value.ref a := rx
  refine getmeth_ok I1 ea cl hm l (PySem.W.callWith_K (first := [.ref a]) (h₀ := X.base) I.ok.mod.kin hm.kp
    (thn ((ha Wx tk).run pos pins s1 σ H1 _ I1 q) fun us s2 ⟨vs, H2, I2, r, q2⟩ => ⟨I2.kIn, ?_⟩) hst hpl)
  exact run_fg (us := .ref a :: us) (vs := .ref a :: vs) F hr Cc.grd hb tk I2 (.cons rfl r) q2
theorem ge_meth0 {c : Nat} {pl : Sem Bool} (Cc : Ctx X) (TG : Tags G X.K tc at_) (he : GE G X o fo) (cl : Cls X.K (G.cls c)) (hm : Meth X.K (G.cls c) m f) (hn : ∀ i, i < G.nf → G.fname i ≠ m) (F : FG X.prog X.w X.K X.mg X.base k f fd ps (spG G X.K 1 fn)) (hr : Room k X.A) (hb : Binds X.K fd ps [])
    (ht : eval (.Call (.Attribute o m apos) [] [] pos) X.env = (do
      let ov ← eval o X.env
      standAt apos.atName
      let (f, first) ← holding [ov] (getMethod ov m pl)
      callWith pos f first (backTo pos (starEach [] X.env)) (backToKw pos (keywordEach [] X.env))) := by rfl) :
    GE G X (.Call (.Attribute o m apos) [] [] pos) (xMeth tc c 1 fn fo xNil) := by
  intro Wx tk
  refine ⟨fun pins s σ H Q I h => ?_⟩
  obtain ⟨ρ, S, W, E, R, h⟩ := h
  have h' : tE G X.K Wx fo σ H (fun x H1 => ∃ a dx fv, x = .ref a ∧ H1 a = some (.ins (G.cls c) dx fv) ∧ fv.lookup m = none ∧ spG G X.K 1 fn [x] H1 Q (WE Wx σ)) :=
    tE_of pkE E R h fun d S1 v H1 W1 T1 E1 R1 r1 h1 => by
      split at h1
      · rename_i ec
        obtain ⟨a, dx, fv, rfl, e1, e2⟩ := RS.cls TG R1 r1 ec
        exact ⟨a, dx, fv, rfl, e1, e2 m hn, spG_of R1 (.cons r1 .nil) rfl h1⟩
      · exact h1.elim
  refine PySem.W.methodCall_KW (pl := pl) (thn ((he Wx tk).run pins s σ H _ I h') fun u s1 ⟨x, H1, I1, rx, a, dx, fv, ex, ea, l, q⟩ => ?_) ht
  subst ex
  obtain rfl : u = Value.ref a := rx
  exact getmeth_ok I1 ea cl hm l (PySem.W.callWith_K0 (first := [.ref a]) I1.kIn hm.kp (run_fg (us := [.ref a]) (vs := [.ref a]) F hr Cc.grd hb tk I1 (.cons rfl .nil) q))
end
end EV

/-! E7: enumerate over a tuple, slices, stars, append; objects made; properties. -/
namespace PySem
namespace EVX
open Sem (wp)
set_option maxHeartbeats 2000000 in
theorem enumNew1 {v : Value} {ob : Obj} {HH : Heap → Prop} (B : Begins v ob HH) : Meets (Builtin.«enumerate.__new__» ⟨[.type "enumerate", v], []⟩) (fun _ R s => HH s.heap ∧
    R (.ok (.ret (.ref (s.heap.push ob).objs.size))) { s with heap := (s.heap.push ob).push { cls := .type "enumerate", data := .fields #[.none, .bool false, .ref s.heap.objs.size, rawInt 0, .none, .none] } }) :=
  .of_wp fun pr wo ar R s hh => by
    obtain ⟨hp, g, d, tk, os⟩ := s
    obtain ⟨hx, hh⟩ := hh
    have hsub := sub_enumerate
    have qi : ∀ {A' : Around} {E : Value → Shared → Prop} {Q : Value → Shared → Prop}, Q (.ref hp.objs.size) ⟨hp.push ob, g, d, tk, os⟩ →
        wpAny (model pr wo) A' (pyIter v) Q E ⟨hp, g, d, tk, os⟩ := fun q => B.iter pr wo _ _ ⟨hp, g, d, tk, os⟩ _ hx q
    wp_walk using qi
    refine wpAny_stack_any fun stk => (wpAny_pure ?_)
    split
    · rename_i cc _ _ _ _ _
      cases (cc == Value.type "enumerate") <;>
      · wp_walk using qi
        exact ⟨_, rfl, hh⟩
    · wp_walk using qi
      exact ⟨_, rfl, hh⟩
theorem enumCall1 {prog : Program} {w : World} {A : Around} {E : Value → Shared → Prop} {s : Shared} {v : Value} {ob : Obj} {HH : Heap → Prop} {Q : Value → Shared → Prop} (B : Begins v ob HH) (hx : HH s.heap)
    (hh : ∀ h2, IsEnum h2 (s.heap.objs.size + 1) s.heap.objs.size 0 .none → h2.get? s.heap.objs.size = some ob →
      (∀ b o, s.heap.get? b = some o → h2.get? b = some o) → Q (.ref (s.heap.objs.size + 1)) { s with heap := h2 }) : wpAny (model prog w) A (call (.type "enumerate") [v]) Q E s := by
  refine callType_new F.called_enumerate (by decide) (F.typeCall_enumerate_1 _) (F.newCall_enumerate_1 _)
    (fun obj => F.args_object_init_2 obj _) F.entry_enumerate_new (enumNew1 B) ⟨hx, ?_⟩
  have e1 : (s.heap.push ob).objs.size = s.heap.objs.size + 1 := Heap.size_push ..
  show _ ∧ _
  rw [e1]
  have e2 : IsEnum ((s.heap.push ob).push { cls := .type "enumerate", data := .fields #[.none, .bool false, .ref s.heap.objs.size, rawInt 0, .none, .none] })
      (s.heap.objs.size + 1) s.heap.objs.size 0 .none := by
    have z := Heap.get?_push_size (s.heap.push ob) (o := { cls := .type "enumerate", data := .fields #[.none, .bool false, .ref s.heap.objs.size, rawInt 0, .none, .none] }) rfl
    rw [e1] at z
    exact z
  exact ⟨⟨_, e2, rfl⟩, hh _ e2 (Heap.get?_push_of_some _ (Heap.get?_push_size _ B.free)) fun b o x => Heap.get?_push_of_some _ (Heap.get?_push_of_some _ x)⟩
end EVX
end PySem
namespace EV
open PySem PySem.Spec PyProof.Rows L2
/-! ### enumerate(tuple) -/
def ItEt (K : PySem.W.Frag) (a : Addr) : It :=
  ⟨fun i H => ∃ (xs : List V) (x : V), SqT K H a xs ∧ xs[i]? = some x, fun i H v H' => ∃ T x, v = .ref T ∧ H T = none ∧ H' = upd H T (.tup [.int (i : Nat), x]) ∧ ∀ xs, SqT K H a xs → xs[i]? = some x,
    fun i H => ∃ xs : List V, SqT K H a xs ∧ xs.length = i⟩
theorem turnEt {P : Program} {w : World} {K : PySem.W.Frag} {elts : List Expr} {kk : Nat} {tpos : Pos} (a e it : Addr) :
    Turn P w K (.Tuple elts kk tpos) (ItEt K a) [e, it] e (fun i h => (∃ old, IsEnum h e it (0 + (i : Int)) old) ∧ h.IsTupleIter it a i ∧ e ≠ it) where
  mem := by simp
  obj := fun i h st b hb => by
    obtain ⟨⟨old, he⟩, ⟨o, ho, hc, hd⟩, _⟩ := st
    have e' : b = e ∨ b = it := by simpa using hb
    rcases e' with z | z
    · rw [z]
      exact ⟨_, he, fun v q => nomatch q⟩
    · rw [z]
      exact ⟨o, ho, fun v q => by rw [hd] at q; cases q⟩
  keep := fun i h h' st k => by
    obtain ⟨⟨old, he⟩, hi, hne⟩ := st
    exact ⟨⟨old, k e (by simp) _ he⟩, hi.at fun o q => k it (by simp) o q, hne⟩
  item := by
    rintro X hP hw hK hc i pins s σ H E I hf ⟨⟨old, he⟩, hit, hne⟩ ⟨xs, x, hq, hx⟩
    subst hP hw hK
    obtain ⟨its, rv, p, hz⟩ := I.tuple hq
    obtain ⟨u, hu, ru⟩ := rv.get hx
    have hil : i < its.toArray.size := by
      rw [List.size_toArray]
      exact (List.getElem?_eq_some_iff.mp hu).1
    have hai : a ≠ it := fun z => by
      obtain ⟨o1, q1, c1, _⟩ := hit
      obtain ⟨o2, q2, c2, _⟩ := p
      rw [z, q1] at q2
      cases q2
      rw [c1] at c2
      exact absurd c2 (by simp)
    have hei : e < s.heap.objs.size := Heap.lt_size he
    have hii : it < s.heap.objs.size := by
      obtain ⟨_, q, _⟩ := hit
      exact Heap.lt_size q
    have hea : e ≠ a := fun z => by
      obtain ⟨o2, q2, c2, _⟩ := p
      rw [← z] at q2
      have q1 := he
      unfold IsEnum at q1
      rw [q1] at q2
      cases q2
      exact absurd c2 (by simp)
    have Wk := WalksT.enumFrom (A := X.A) 0 (Draws.tuple (prog := X.prog) (w := X.w) (A := X.A.in1) (I.ok.hd hc) it a hai its.toArray) e hne (by simp [hne, hea]) (by simp)
    refine Wk.item i s _ _ hil ⟨⟨old, he⟩, hit, show s.heap.IsTuple a its.toArray from p⟩ fun T vals h1 tk hPt hT hIs hMid k1 => ?_
    obtain ⟨t, y, hy, rfl⟩ := hPt
    have ey : y = u := by
      have z : its.toArray[i]? = some u := by simpa using hu
      rw [hy] at z
      exact Option.some.inj z
    subst ey
    refine ⟨_, rfl, Wk.go elts kk tpos i T _ _ _ hMid fun h2 st2 k2 => ?_⟩
    have kk2 : ∀ b o, b ∉ [e, it] → s.heap.get? b = some o → h2.get? b = some o := fun b o hb z => k2 b o hb (k1 b o hb z)
    have nT : T ∉ [e, it] := fun hm => by
      rcases List.mem_cons.mp hm with z | z
      · exact absurd (Nat.lt_of_lt_of_le hei hT) (by rw [z]; exact Nat.lt_irrefl _)
      · have z' : T = it := by simpa using z
        exact absurd (Nat.lt_of_lt_of_le hii hT) (by rw [z']; exact Nat.lt_irrefl _)
    obtain ⟨oT, hoT, cT, nn, dT⟩ := hIs
    have new : ObjOk X.prog X.w (upd H T (.tup [.int (i : Nat), x])) h2 T (.tup [.int (i : Nat), x]) := by
      refine ⟨by show 2 ≤ sizeLine; decide, [.int (0 + (i : Int)) t, y], .cons ⟨t, by rw [Int.zero_add]⟩ (.cons ru .nil), oT, k2 T oT nT hoT, cT, nn, dT⟩
    have I1 : Inv X pins σ (upd H T (.tup [.int (i : Nat), x])) { s with heap := h2, toks := tk } := I.turnedNew (ch := [e, it]) kk2 hf hT new
    refine ⟨.ref T, _, I1, rfl, ⟨T, x, rfl, I.hok.fresh hT, rfl, fun ys hy => by rw [I.tuple_inj hy hq]; exact hx⟩, ⟨?_, st2.2.1, hne⟩, fun b hb => ?_⟩
    · obtain ⟨⟨old2, z⟩, _⟩ := st2
      exact ⟨old2, z⟩
    · rw [upd_ne fun z => nT (by rw [← z]; exact hb)]
      exact (hf b hb).1
  done := by
    rintro X hP hw hK hc i pins s σ H E I hf ⟨⟨old, he⟩, hit, hne⟩ ⟨xs, hq, hx⟩
    subst hP hw hK
    obtain ⟨its, rv, p, hz⟩ := I.tuple hq
    have hl := rv.length
    have hai : a ≠ it := fun z => by
      obtain ⟨o1, q1, c1, _⟩ := hit
      obtain ⟨o2, q2, c2, _⟩ := p
      rw [z, q1] at q2
      cases q2
      rw [c1] at c2
      exact absurd c2 (by simp)
    have hea : e ≠ a := fun z => by
      obtain ⟨o2, q2, c2, _⟩ := p
      rw [← z] at q2
      have q1 := he
      unfold IsEnum at q1
      rw [q1] at q2
      cases q2
      exact absurd c2 (by simp)
    have Wk := WalksT.enumFrom (A := X.A) 0 (Draws.tuple (prog := X.prog) (w := X.w) (A := X.A.in1) (I.ok.hd hc) it a hai its.toArray) e hne (by simp [hne, hea]) (by simp)
    have en : its.toArray.size = i := by rw [List.size_toArray, ← hl, hx]
    refine Wk.done s _ _ ?_ fun h1 tk k1 => ⟨rfl, I.turnedL (ch := [e, it]) k1 hf⟩
    rw [en]
    exact ⟨⟨old, he⟩, hit, show s.heap.IsTuple a its.toArray from p⟩
  self := fun A i s Q E st h => let ⟨⟨_, he⟩, _⟩ := st; wpAny_pyIter_enum he h
theorem pi_enumT {X : Cx} {e : Expr} {ta : TA} {p pos tpos : Pos} {elts : List Expr} {kk : Nat} (hg : Gl X "enumerate") (hm : X.mg "enumerate" = none) (ha : PA X [e] ta) (hs : starEach [e] X.env = [(false, eval e X.env)] := by rfl) :
    PI X (.Tuple elts kk tpos) (.Call (.Name "enumerate" p) [e] [] pos) (fun σ H R => ta σ H fun vs H1 => ∃ a xs, vs = [.ref a] ∧ SqT X.K H1 a xs ∧ R (ItEt X.K a) H1) := by
  refine ⟨fun pins s σ H R I h => Call_ (ld_blt I hg hm boot_enumerate (PyProof.Rows.callWith_type1 (thn (ha.run pos pins s σ H _ I h) fun us s1 ⟨vs, H1, I1, r1, q1⟩ => ?_) hs rfl))⟩
  obtain ⟨a, xs, ex, hq, q⟩ := q1
  subst ex
  obtain ⟨u, rfl, ru⟩ := vals1 r1
  cases ru
  obtain ⟨its, rv, pt, hz⟩ := I1.tuple hq
  refine PySem.EVX.enumCall1 (begins_tuple a its.toArray) (show s1.heap.IsTuple a its.toArray from pt) fun h2 he hit hk => wpAny_pyIter_enum he ?_
  have I2 : Inv X pins σ H1 { s1 with heap := h2 } := I1.kept (t' := s1.toks) hk
  refine ⟨s1.heap.objs.size + 1, [s1.heap.objs.size + 1, s1.heap.objs.size], _, _, H1, rfl, I2, turnEt a (s1.heap.objs.size + 1) s1.heap.objs.size, ⟨⟨.none, he⟩, ⟨_, hit, rfl, rfl⟩, Nat.succ_ne_self _⟩, fun b hb => ?_, q⟩
  have e' : b = s1.heap.objs.size + 1 ∨ b = s1.heap.objs.size := by simpa using hb
  have hle : s1.heap.objs.size ≤ b := by
    rcases e' with z | z <;> rw [z] <;> omega
  exact I1.fpOk hle (I1.hok.fresh hle)
/-- enumerate of a list or a tuple -/
def enumD (xs : List D) : List D := xs.zipIdx.map fun p => .tup [.int (p.2 : Nat), p.1]
def xEnum (fr : EA) : EI := fun ρ S => bnd (fr ρ S) fun ds S1 => match ds with
  | [d] => match seqD S1 d with
    | some xs => some (.ok (enumD xs, stays S1 d), S1)
    | none => none
  | _ => none
section
variable {G : Sig} {X : Cx}
theorem enumD_at {xs : List D} {i : Nat} (hi : i < xs.length) : (enumD xs)[i]? = some (.tup [.int (i : Nat), xs[i]]) := by
  unfold enumD
  rw [List.getElem?_map, List.getElem?_zipIdx, List.getElem?_eq_getElem hi]
  simp
theorem enumD_length (xs : List D) : (enumD xs).length = xs.length := by simp [enumD]
theorem walkEnum {K : PySem.W.Frag} {W : Wd} {J : It} {xs : List D} {g : Sto → Prop} {Sq : Hp → List V → Prop}
    (hgo : ∀ i H vs x, Sq H vs → vs[i]? = some x → J.go i H) (hst : ∀ H vs, Sq H vs → J.stop vs.length H)
    (hy : ∀ i H v H', J.yld i H v H' → ∃ T x, v = .ref T ∧ H T = none ∧ H' = upd H T (.tup [.int (i : Nat), x]) ∧ ∀ vs, Sq H vs → vs[i]? = some x)
    (hs : ∀ W2 S2 H2, W.le W2 → RS G K W2 S2 H2 → g S2 → ∃ vs, Sq H2 vs ∧ Reps K W2 xs vs) : WalkD G K W J (enumD xs) g := by
  refine ⟨fun H2 => ∃ vs, Sq H2 vs ∧ vs.length = xs.length, fun i H2 x H3 => J.yld i H2 x H3, ⟨fun i H2 hi ⟨vs, q, hl⟩ => ?_, fun H2 ⟨vs, q, hl⟩ => ?_, fun i H2 x H3 _ _ y => y⟩, fun W2 S2 H2 le R2 st => ?_, fun i H2 v H3 W2 S2 le R2 st hi y => ?_⟩
  · rw [enumD_length] at hi
    exact hgo i H2 vs _ q (List.getElem?_eq_getElem (by omega))
  · rw [enumD_length, ← hl]
    exact hst H2 vs q
  · obtain ⟨vs, q, r⟩ := hs W2 S2 H2 le R2 st
    exact ⟨vs, q, r.length.symm⟩
  · rw [enumD_length] at hi
    obtain ⟨vs, q, r⟩ := hs W2 S2 H2 le R2 st
    obtain ⟨T, x, rfl, h0, rfl, hx⟩ := hy i H2 v H3 y
    obtain ⟨d, h1, h2⟩ := r.rev (hx vs q)
    rw [List.getElem?_eq_getElem hi] at h1
    cases h1
    obtain ⟨T2, R3, L3⟩ := R2.new h0 (.tup [.int (i : Nat), x])
    obtain ⟨W3, le3, T3, R4, e4⟩ := R3.frz T2 h0 L3 upd_same
    exact ⟨W3, _, T3, R4, enumD_at hi, .tup e4 (.cons (.int _) (.cons (h2.mono le3) .nil))⟩
theorem gi_enum {e : Expr} {fr : EA} {p pos tpos : Pos} {elts : List Expr} {kk : Nat} (hg : Gl X "enumerate") (hm : X.mg "enumerate" = none) (ha : GA G X [e] fr) (hs : starEach [e] X.env = [(false, eval e X.env)] := by rfl) :
    GI G X (.Tuple elts kk tpos) (.Call (.Name "enumerate" p) [e] [] pos) (xEnum fr) := by
  intro Wx tk
  refine pi_imp (pi_or (pi_enum hg hm (ha Wx tk) hs) (pi_enumT hg hm (ha Wx tk) hs)) ?_
  rintro σ H R ⟨ρ, S, W, E, RR, hq⟩
  unfold xEnum at hq
  generalize q : fr ρ S = r at hq
  match r, hq with
  | none, hq => exact hq.elim
  | some (.error er, S1), hq =>
    refine .inl ⟨ρ, S, W, E, RR, ?_⟩
    rw [q]
    exact hq
  | some (.ok [], S1), hq => exact hq.elim
  | some (.ok (_ :: _ :: _), S1), hq => exact hq.elim
  | some (.ok [d], S1), hq =>
    have hq' : PostI G X.K Wx σ R W H (match seqD S1 d with
      | some xs => some (.ok (enumD xs, stays S1 d), S1)
      | none => none) := hq
    by_cases ht : ∃ ys, d = .tup ys
    · refine .inr ⟨ρ, S, W, E, RR, ?_⟩
      rw [q]
      intro vs H1 W1 T1 R1 r1
      obtain ⟨v, rfl, rd⟩ := reps1 r1
      split at hq'
      · rename_i xs e1
        rcases seq_kind R1 rd e1 with ⟨a, vs, rfl, z, _⟩ | ⟨a, vs, rfl, z, hs, again⟩
        · obtain ⟨ys, hy⟩ := ht
          exact absurd hy (z ys)
        · exact ⟨a, vs, rfl, hs, hq' _ H1 W1 T1 R1 (walkEnum (Sq := fun H vs => SqT X.K H a vs) (fun i H vs x q h => ⟨vs, x, q, h⟩) (fun H vs q => ⟨vs, q, rfl⟩) (fun i H v H' y => y) again)⟩
      · exact hq'.elim
    · refine .inl ⟨ρ, S, W, E, RR, ?_⟩
      rw [q]
      intro vs H1 W1 T1 R1 r1
      obtain ⟨v, rfl, rd⟩ := reps1 r1
      split at hq'
      · rename_i xs e1
        rcases seq_kind R1 rd e1 with ⟨a, vs, rfl, z, hs, again⟩ | ⟨a, vs, rfl, z, _⟩
        · exact ⟨a, vs, rfl, hs, hq' _ H1 W1 T1 R1 (walkEnum (Sq := fun H vs => SqL X.K H a vs) (fun i H vs x q h => ⟨vs, x, q, h⟩) (fun H vs q => ⟨vs, q, Nat.le_refl _⟩) (fun i H v H' y => y) again)⟩
        · exact absurd z ht
      · exact hq'.elim
/-! ### stars, slices, append -/
def xStar (f : EX) (r : EA) : EA := fun ρ S => bnd (f ρ S) fun d S1 => match seqD S1 d with
  | some xs => bnd (r ρ S1) fun ys S2 => some (.ok (xs ++ ys), S2)
  | none => none
variable {e o : Expr} {es : List Expr} {f fo : EX} {fr : EA} {pos p2 apos : Pos}
theorem ga_star {p : Pos} (he : GE G X e f) (hr : GA G X es fr) (hs : starEach (.Starred e p :: es) X.env = (true, eval e X.env) :: starEach es X.env := by rfl) : GA G X (.Starred e p :: es) (xStar f fr) := by
  intro Wx tk
  refine pa_imp (StX.pa_star (he Wx tk) (hr Wx tk) hs) ?_
  rintro σ H Q ⟨ρ, S, W, E, R, h⟩
  refine tE_of pkA E R h fun d S1 v H1 W1 T1 E1 R1 r1 h1 => ?_
  split at h1
  · rename_i xs e1
    obtain ⟨a, vs, rfl, hs, rs⟩ := R1.seq r1 e1
    refine ⟨a, vs, rfl, hs.symm, ?_⟩
    exact tA_of pkA E1 R1 h1 fun ys S2 us H2 W2 T2 E2 R2 r2 h2 => h2 _ H2 W2 (.refl _ _) R2 ((rs.mono T2.le).append r2)
  · exact h1.elim
theorem stays_refl (S : Sto) (d : D) : stays S d S := by
  cases d <;> first | exact trivial | rfl
/-- a slice's part -/
abbrev EO := Frm → Sto → Res (Option Int)
def PostO (G : Sig) (K : PySem.W.Frag) (Wx : WX) (σ : L2.St) (Q : Option Int → Hp → Prop) (W : Wd) (H : Hp) : Res (Option Int) → Prop
  | none => False
  | some (.ok o, S) => ∀ H' W', Stp W H W' H' → RS G K W' S H' → Q o H'
  | some (.error e, S) => ∀ cls dx H' W', Stp W H W' H' → RS G K W' S H' → ErIs G K W' H' e cls dx → Wx cls dx σ H'
def tO (G : Sig) (K : PySem.W.Frag) (Wx : WX) (f : EO) : TO := fun σ H Q => ∃ ρ S W, RE K W ρ σ ∧ RS G K W S H ∧ PostO G K Wx σ Q W H (f ρ S)
def GO (G : Sig) (X : Cx) (e : Option Expr) (f : EO) : Prop := ∀ Wx, Takes X Wx → PO X e (tO G X.K Wx f)
theorem pkO {K : PySem.W.Frag} {Wx : WX} {σ : L2.St} {Q : Option Int → Hp → Prop} : PKt G K Wx σ (PostO G K Wx σ Q) where
  no := fun _ _ h => h
  er := fun _ _ _ _ h => h
  later := fun W H W1 H1 S1 r T _ h => by
    match r, h with
    | some (.ok d, S), h => exact fun H' W' T' R => h H' W' (T.trans T') R
    | some (.error e, S), h => exact fun cls dx H' W' T' R r => h cls dx H' W' (T.trans T') R r
theorem tO_of {β : Type} {K : PySem.W.Frag} {Wx : WX} {σ : L2.St} {W : Wd} {H : Hp} {S : Sto} {ρ : Frm} {P : Wd → Hp → Res β → Prop} {f : EO} {k : Option Int → Sto → Res β} {Q' : Option Int → Hp → Prop} (pk : PKt G K Wx σ P) (E : RE K W ρ σ) (R : RS G K W S H) (h : P W H (bnd (f ρ S) k))
    (c : ∀ b S' H' W', Stp W H W' H' → RE K W' ρ σ → RS G K W' S' H' → P W' H' (k b S') → Q' b H') : tO G K Wx f σ H Q' := by
  refine ⟨ρ, S, W, E, R, ?_⟩
  generalize f ρ S = r at h ⊢
  match r, h with
  | none, h => exact pk.no _ _ h
  | some (.ok d, S'), h => exact fun H' W' T R' => c d S' H' W' T (E.mono T.le) R' (pk.later _ _ _ _ _ _ T R' h)
  | some (.error e, S'), h => exact pk.er _ _ _ _ h
def xNoP : EO := fun _ S => some (.ok none, S)
def xPart (f : EX) : EO := fun ρ S => bnd (f ρ S) fun d S1 => match d with
  | .int i => some (.ok (some i), S1)
  | _ => none
theorem go_none : GO G X none xNoP := by
  intro Wx tk
  refine ⟨fun pins s σ H Q I h => po_none.run pins s σ H Q I ?_⟩
  obtain ⟨ρ, S, W, E, R, h⟩ := h
  exact h H W (.refl _ _) R
theorem go_some (h : GE G X e f) : GO G X (some e) (xPart f) := by
  intro Wx tk
  refine ⟨fun pins s σ H Q I hq => (po_some (h Wx tk)).run pins s σ H Q I ?_⟩
  obtain ⟨ρ, S, W, E, R, hq⟩ := hq
  refine tE_of pkO E R hq fun d S1 v H1 W1 T1 E1 R1 r1 h1 => ?_
  split at h1
  · cases r1
    exact ⟨_, rfl, h1 H1 W1 (.refl _ _) R1⟩
  · exact h1.elim
def cutL {α : Type} (xs : List α) (lo hi : Option Int) : List α := (xs.drop (HT.sIx xs.length 0 lo)).take (HT.sIx xs.length xs.length hi - HT.sIx xs.length 0 lo)
theorem Reps.cutL {K : PySem.W.Frag} {W : Wd} {ds : List D} {vs : List V} (r : Reps K W ds vs) (lo hi : Option Int) : Reps K W (cutL ds lo hi) (cutV vs lo hi) := by
  unfold EV.cutL cutV
  rw [r.length]
  exact (r.drop _).take _
variable {lo hi : Option Expr} {fl fh : EO}
/-- xs[a:b], xs a list -/
def xSlL (f : EX) (fl fh : EO) : EA := fun ρ S => bnd (f ρ S) fun d S1 => bnd (fl ρ S1) fun a S2 => bnd (fh ρ S2) fun b S3 => match d with
  | .tup _ => none
  | d => match seqD S3 d with
    | some xs => some (.ok (cutL xs a b), S3)
    | none => none
theorem gf_slL (he : GE G X e f) (hl : GO G X lo fl) (hh : GO G X hi fh) : GF G X (.Subscript e (.Slice lo hi none p2) pos) (xSlL f fl fh) := by
  intro Wx tk
  refine pe_imp (pe_slice sl_list (he Wx tk) (hl Wx tk) (hh Wx tk)) ?_
  rintro σ H Q ⟨ρ, S, W, E, R, h⟩
  refine tE_of pkF E R h fun d S1 v H1 W1 T1 E1 R1 r1 h1 => tO_of pkF E1 R1 h1 fun a S2 H2 W2 T2 E2 R2 h2 => tO_of pkF E2 R2 h2 fun b S3 H3 W3 T3 E3 R3 h3 => ?_
  have r3 := (r1.mono T2.le).mono T3.le
  split at h3
  · exact h3.elim
  · rename_i d hnt
    split at h3
    · rename_i xs e1
      rcases seq_kind R3 r3 e1 with ⟨p, vs, rfl, _, hs, again⟩ | ⟨p, vs, rfl, ⟨ys, hy⟩, _⟩
      · obtain ⟨vs', hs', rs⟩ := again W3 S3 H3 (.refl _) R3 (stays_refl S3 _)
        refine ⟨p, vs', rfl, hs', fun q hq => ?_⟩
        obtain ⟨T4, R4, L4⟩ := R3.new hq (.lst (cutV vs' a b))
        exact h3 q _ _ W3 T4 R4 hq L4 upd_same (rs.cutL a b)
      · exact absurd hy (hnt ys)
    · exact h3.elim
/-- t[a:b], t a tuple, not the whole of it -/
def xSlT (f : EX) (fl fh : EO) : EX := fun ρ S => bnd (f ρ S) fun d S1 => bnd (fl ρ S1) fun a S2 => bnd (fh ρ S2) fun b S3 => match d with
  | .tup xs => if HT.sIx xs.length 0 a = 0 ∧ HT.sIx xs.length xs.length b = xs.length then none else some (.ok (.tup (cutL xs a b)), S3)
  | _ => none
theorem ge_slT (he : GE G X e f) (hl : GO G X lo fl) (hh : GO G X hi fh) : GE G X (.Subscript e (.Slice lo hi none p2) pos) (xSlT f fl fh) := by
  intro Wx tk
  refine pe_imp (pe_slice sl_tup (he Wx tk) (hl Wx tk) (hh Wx tk)) ?_
  rintro σ H Q ⟨ρ, S, W, E, R, h⟩
  refine tE_of pkE E R h fun d S1 v H1 W1 T1 E1 R1 r1 h1 => tO_of pkE E1 R1 h1 fun a S2 H2 W2 T2 E2 R2 h2 => tO_of pkE E2 R2 h2 fun b S3 H3 W3 T3 E3 R3 h3 => ?_
  have r3 := (r1.mono T2.le).mono T3.le
  split at h3
  · rename_i xs
    split at h3
    · exact h3.elim
    · rename_i hw
      cases r3 with
      | tup hh rs =>
        rename_i p vs
        rw [rs.length] at hw
        refine ⟨p, vs, rfl, .of (R3.fr _ _ hh), hw, fun q hq => ?_⟩
        obtain ⟨T4, R4, L4⟩ := R3.new hq (.tup (cutV vs a b))
        obtain ⟨W5, le5, T5, R5, e5⟩ := R4.frz T4 hq L4 upd_same
        exact h3 _ _ W5 T5 R5 (.tup e5 ((rs.cutL a b).mono le5))
  · exact h3.elim
/-- o.append(e), o a cell -/
def xApp (fo fe : EX) : EX := fun ρ S => bnd (fo ρ S) fun d S1 => match d with
  | .cell n => match S1[n]? with
    | some (some (.lst _)) => bnd (fe ρ S1) fun y S2 => match S2[n]? with
      | some (some (.lst xs)) => if xs.length < cap then some (.ok .non, S2.set n (some (.lst (xs ++ [y])))) else none
      | _ => none
    | _ => none
  | _ => none
theorem ge_app (ho : GE G X o fo) (he : GE G X e f)
    (hbase : attributeBase o "append" X.env (eval o X.env) = eval o X.env := by rfl)
    (hfew : ((backTo pos (starEach [e] X.env)).all (fun x => !x.1) && (backToKw pos (keywordEach [] X.env)).all (fun x => x.1.isSome)
      && decide ([e].length + ([] : List Keyword).length + (if ([] : List Keyword).isEmpty then 0 else 1) < 30)) = true := by rfl)
    (hline : (apos.endLine == pos.line) = true := by rfl) (hs : starEach [e] X.env = (false, eval e X.env) :: starEach [] X.env := by rfl) (hplain : (backTo pos (starEach [] X.env)).any (·.1) = false := by rfl) :
    GE G X (.Call (.Attribute o "append" apos) [e] [] pos) (xApp fo f) := by
  intro Wx tk
  refine pe_imp (pe_bm PySem.F.plainAttrs_list PySem.F.slot_list_append PySem.F.type_list_append mt_append (ho Wx tk) (pa_cons (he Wx tk) pa_nil hs) hbase hfew hline hs hplain) ?_
  rintro σ H Q ⟨ρ, S, W, E, R, h⟩
  refine tE_of pkE E R h fun d S1 v H1 W1 T1 E1 R1 r1 h1 => ?_
  split at h1
  · rename_i n
    split at h1
    · rename_i xs0 q0
      cases r1 with
      | cell hn =>
        rename_i a
        obtain ⟨a', z1, _, vs0, z3, z4⟩ := R1.cl n _ q0
        rw [hn] at z1
        cases z1
        refine ⟨.inl ⟨rfl, vs0, .of z3⟩, ?_⟩
        refine tE_of pkE E1 R1 h1 fun y S2 u H2 W2 T2 E2 R2 r2 h2 => ?_
        split at h2
        · rename_i xs q1
          split at h2
          · rename_i hc
            obtain ⟨a', z1, _, vs, z3, z4⟩ := R2.cl n _ q1
            rw [T2.le.at hn] at z1
            cases z1
            have hl := z4.length
            refine ⟨a, vs, u, rfl, rfl, z3, Nat.lt_of_lt_of_le (by omega) cap_le, ?_⟩
            obtain ⟨T3, R3⟩ := R2.put q1 (T2.le.at hn) (c' := .lst (xs ++ [y])) (o := .lst (vs ++ [u])) ⟨_, upd_same, z4.append (.cons r2 .nil)⟩
            exact h2 _ _ W2 T3 R3 .non
          · exact h2.elim
        · exact h2.elim
    · exact h1.elim
  · exact h1.elim
end
end EV

/-! E8: objects made, properties, own ==, isinstance; the law's end. -/
namespace EV
open PySem PySem.Spec PyProof.Rows L2
section
variable {G : Sig} {X : Cx} {k n : Nat} {f C : Addr} {fd : FuncData} {ps : List Str} {sp : Sp} {fn : Fn} {Wx : WX} {x m : Str} {p pos apos : Pos} {e o : Expr} {es : List Expr} {fr : EA} {fo : EX}
theorem run_mk {pins : List (Addr × Obj)} {σ : L2.St} {H : Hp} {s : Shared} {Q : VK} {us : List Value} {vs : List V} (M : Mk X.K C f) (F : FG X.prog X.w X.K X.mg X.base k f fd ps sp) (hr : Room (k + 1) X.A) (hgd : X.A.guards = some []) (hb : Binds X.K fd ps []) (tk : Takes X Wx)
    (I : Inv X pins σ H s) (r : Vals vs us)
    (h : ∀ x dx, H x = none → H dx = none → dx ≠ x → sp (.ref x :: vs) (upd (upd H dx (.own x)) x (.ins C dx [])) (fun v H2 => v = .non ∧ Q (.ref x) H2) (WE Wx σ)) :
    wpAny (model X.prog X.w) X.A (call (.ref C) us) (EP X pins σ Q) X.xe s := by
  have hq := h (s.heap.objs.size + 1) s.heap.objs.size (I.hok.fresh (Nat.le_succ _)) (I.hok.fresh (Nat.le_refl _)) (Nat.ne_of_lt (Nat.lt_succ_self _))
  have J := Inv.made (C := C) I
  have rr : Vals (V.ref (s.heap.objs.size + 1) :: vs) (Value.ref (s.heap.objs.size + 1) :: us) := .cons rfl r
  have hl : (Value.ref (s.heap.objs.size + 1) :: us ++ []).length = ps.length := by
    rw [List.append_nil, ← rr.length]
    exact F.len _ _ _ _ hq
  have bb := hb { s with heap := (s.heap.push PySem.W.emptyDict).push (PySem.W.instObj C s.heap.objs.size) } (Value.ref (s.heap.objs.size + 1) :: us) J.kIn hl
  rw [List.append_nil] at bb
  refine wpAny_call (make_map (f := f) I.kIn M.makes M.init (beq_iff_eq.mp M.fn)
    (codeAny_mono (F.run _ X.stack _ _ ⟨Value.ref (s.heap.objs.size + 1) :: us, []⟩ (Value.ref (s.heap.objs.size + 1) :: us) _ _ (WE Wx σ) (hr.make C us []) hgd (J.env0.make C us []) bb rr hq) fun z s' hz => ?_))
  match z, hz with
  | .error er, hz => exact passAt tk σ pins _ _ er s' J hz
  | .ok (.ret u), hz =>
    obtain ⟨v, H', I3, rv, ev, q3⟩ := J.after hz
    subst ev
    exact ⟨rv, ⟨V.ref (s.heap.objs.size + 1), H', I3, rfl, q3⟩⟩
/-- a new object as a cell -/
def mkC (c : Nat) (init : Fn) : Fn := fun ds S => match init (.cell S.length :: ds) (S ++ [some (.ins c [])]) with
  | some (.ok .non, S') => some (.ok (.cell S.length), S')
  | some (.error e, S') => some (.error e, S')
  | _ => none
/-- .. behind a tag -/
def mkO (c t : Nat) (init : Fn) (conv : List (Nat × D) → Option D) : Fn := fun ds S => match init (.cell S.length :: ds) (S ++ [some (.ins c [])]) with
  | some (.ok .non, S') => match S'[S.length]? with
    | some (some (.ins c' fs)) => if c' = c ∧ (S'.take S.length).all (lowS S.length) = true ∧ (fs.all fun p => D.low S.length p.2) = true then match conv fs with
      | some d => some (.ok (.obj t d), S'.take S.length)
      | none => none
      else none
    | _ => none
  | some (.error e, S') => if S.length ≤ S'.length ∧ (S'.take S.length).all (lowS S.length) = true ∧ D.low S.length e.2 = true then some (.error e, S'.take S.length) else none
  | _ => none
theorem made {K : PySem.W.Frag} {W : Wd} {S : Sto} {H : Hp} {x dx : Addr} {c : Nat} {ds : List D} {vs : List V} (R : RS G K W S H) (r : Reps K W ds vs) (hx : H x = none) (hdx : H dx = none) (ne : dx ≠ x) :
    ∃ W', Stp W H W' (upd (upd H dx (.own x)) x (.ins (G.cls c) dx [])) ∧ RS G K W' (S ++ [some (.ins c [])]) (upd (upd H dx (.own x)) x (.ins (G.cls c) dx [])) ∧ W'.as[S.length]? = some x ∧ Reps K W' (.cell S.length :: ds) (.ref x :: vs) := by
  obtain ⟨T1, R1, L1⟩ := R.new hdx (.own x)
  have hx1 : upd H dx (.own x) x = none := by rw [upd_ne (Ne.symm ne)]; exact hx
  obtain ⟨T2, R2, L2⟩ := R1.new hx1 (.ins (G.cls c) dx [])
  obtain ⟨W3, le3, T3, R3, e3⟩ := R2.cell (T1.trans T2) hx L2 (c := .ins c []) ⟨dx, [], upd_same, .nil⟩
  exact ⟨W3, T3, R3, e3, .cons (.cell e3) (r.mono T3.le)⟩
theorem ge_mkC {c : Nat} (Cc : Ctx X) (M : Mk X.K (G.cls c) f) (F : FG X.prog X.w X.K X.mg X.base k f fd ps (spG G X.K (n + 1) fn)) (hr : Room (k + 1) X.A) (hg : Gl X x) (hm : X.mg x = some (.ref (G.cls c))) (hb : Binds X.K fd ps [])
    (ha : GA G X (e :: es) fr) (hdb : (x == ("__debug__" : Str)) = false := by decide) (he : starEach (e :: es) X.env = (false, eval e X.env) :: starEach es X.env := by rfl) (hpl : (backTo pos (starEach es X.env)).any (·.1) = false := by rfl) :
    GE G X (.Call (.Name x p) (e :: es) [] pos) (xCall n (mkC c fn) fr) := by
  intro Wx tk
  refine ⟨fun pins s σ H Q I h => wpAny_Call_Name_kw (ld_glob I hg hm ?_ hdb)⟩
  obtain ⟨ρ, S, W, E, R, h⟩ := h
  have h' := tA_of (Q' := fun vs H1 => ∀ x dx, H1 x = none → H1 dx = none → dx ≠ x → spG G X.K (n + 1) fn (.ref x :: vs) (upd (upd H1 dx (.own x)) x (.ins (G.cls c) dx [])) (fun v H2 => v = .non ∧ Q (.ref x) H2) (WE Wx σ)) pkE E R h fun ds S1 vs H1 W1 T1 E1 R1 r1 h1 => by
    intro x dx hx hdx ne
    split at h1
    · rename_i hl
      obtain ⟨W3, T3, R3, e3, r3⟩ := made (c := c) R1 r1 hx hdx ne
      refine ⟨_, _, W3, r3, by simp [hl], R3, ?_⟩
      unfold mkC at h1
      generalize fn (.cell S1.length :: ds) (S1 ++ [some (.ins c [])]) = z at h1 ⊢
      match z, h1 with
      | none, h1 => exact h1.elim
      | some (.error e, S'), h1 => exact fun cls dx' H' W' T' R' er => h1 cls dx' H' W' (T3.trans T') R' er
      | some (.ok .non, S'), h1 =>
        intro v H' W' T' R' r'
        cases r'
        exact ⟨rfl, h1 _ H' W' (T3.trans T') R' (.cell (T'.le.at e3))⟩
      | some (.ok (.bl _), S'), h1 => exact h1.elim
      | some (.ok (.int _), S'), h1 => exact h1.elim
      | some (.ok (.str _), S'), h1 => exact h1.elim
      | some (.ok (.tup _), S'), h1 => exact h1.elim
      | some (.ok (.lst _), S'), h1 => exact h1.elim
      | some (.ok (.scr _), S'), h1 => exact h1.elim
      | some (.ok (.cell _), S'), h1 => exact h1.elim
      | some (.ok (.obj _ _), S'), h1 => exact h1.elim
    · exact h1.elim
  refine PySem.W.callWith_K (h₀ := X.base) I.ok.mod.kin M.kp
    (thn ((ha Wx tk).run pos pins s σ H _ I h') fun us s1 ⟨vs, H1, I1, r, q⟩ => ⟨I1.kIn, ?_⟩) he hpl
  exact run_mk M F hr Cc.grd hb tk I1 r q
theorem ge_mkO {c t : Nat} {conv : List (Nat × D) → Option D} (hconv : ∀ fs d, conv fs = some d → ∀ W a dx fv, RepN G X.K W fs fv → G.inv t d a (.ins (G.cls c) dx fv) W)
    (Cc : Ctx X) (M : Mk X.K (G.cls c) f) (F : FG X.prog X.w X.K X.mg X.base k f fd ps (spG G X.K (n + 1) fn)) (hr : Room (k + 1) X.A) (hg : Gl X x) (hm : X.mg x = some (.ref (G.cls c))) (hb : Binds X.K fd ps [])
    (ha : GA G X (e :: es) fr) (hdb : (x == ("__debug__" : Str)) = false := by decide) (he : starEach (e :: es) X.env = (false, eval e X.env) :: starEach es X.env := by rfl) (hpl : (backTo pos (starEach es X.env)).any (·.1) = false := by rfl) :
    GE G X (.Call (.Name x p) (e :: es) [] pos) (xCall n (mkO c t fn conv) fr) := by
  intro Wx tk
  refine ⟨fun pins s σ H Q I h => wpAny_Call_Name_kw (ld_glob I hg hm ?_ hdb)⟩
  obtain ⟨ρ, S, W, E, R, h⟩ := h
  have h' := tA_of (Q' := fun vs H1 => ∀ x dx, H1 x = none → H1 dx = none → dx ≠ x → spG G X.K (n + 1) fn (.ref x :: vs) (upd (upd H1 dx (.own x)) x (.ins (G.cls c) dx [])) (fun v H2 => v = .non ∧ Q (.ref x) H2) (WE Wx σ)) pkE E R h fun ds S1 vs H1 W1 T1 E1 R1 r1 h1 => by
    intro x dx hx hdx ne
    split at h1
    · rename_i hl
      obtain ⟨W3, T3, R3, e3, r3⟩ := made (c := c) R1 r1 hx hdx ne
      refine ⟨_, _, W3, r3, by simp [hl], R3, ?_⟩
      unfold mkO at h1
      generalize fn (.cell S1.length :: ds) (S1 ++ [some (.ins c [])]) = z at h1 ⊢
      match z, h1 with
      | none, h1 => exact h1.elim
      | some (.error e, S'), h1 =>
        dsimp only at h1
        split at h1
        · rename_i cc
          rintro cls dx' H' W' T' R' ⟨e1, a, v, e2, e3, e4⟩
          obtain ⟨W2, T2, R2, hr2, _, _, hH⟩ := R'.trunc (T3.trans T') R1.len cc.1 cc.2.1
          exact h1 cls dx' H' W2 T2 R2 ⟨e1, a, v, e2, by rw [hH]; exact e3, hr2 e.2 v e4 cc.2.2⟩
        · exact h1.elim
      | some (.ok .non, S'), h1 =>
        intro v H' W' T' R' r'
        cases r'
        refine ⟨rfl, ?_⟩
        dsimp only at h1
        split at h1
        · rename_i c' fs q
          split at h1
          · rename_i cc
            generalize ed : conv fs = od at h1
            match od, h1 with
            | none, h1 => exact h1.elim
            | some d, h1 =>
              obtain ⟨ec, c2, c3⟩ := cc
              rw [ec] at q
              have hlen : S1.length ≤ S'.length := Nat.le_of_lt (List.getElem?_eq_some_iff.mp q).1
              obtain ⟨a', z1, z0, dx', fv, z3, z4⟩ := R'.cl _ _ q
              rw [T'.le.at e3] at z1
              cases z1
              obtain ⟨W2, T2, R2, hr2, hln, hrn, _⟩ := R'.trunc (T3.trans T') R1.len hlen c2
              have L := hln _ _ (Nat.le_refl _) (T'.le.at e3) z0
              obtain ⟨W4, le4, T4, R4, e4⟩ := R2.newtag T2 hx L z3 (hconv fs d ed W2 _ _ _ (hrn fs fv z4 c3))
              exact h1 _ H' W4 T4 R4 (.obj e4)
          · exact h1.elim
        · exact h1.elim
      | some (.ok (.bl _), S'), h1 => exact h1.elim
      | some (.ok (.int _), S'), h1 => exact h1.elim
      | some (.ok (.str _), S'), h1 => exact h1.elim
      | some (.ok (.tup _), S'), h1 => exact h1.elim
      | some (.ok (.lst _), S'), h1 => exact h1.elim
      | some (.ok (.scr _), S'), h1 => exact h1.elim
      | some (.ok (.cell _), S'), h1 => exact h1.elim
      | some (.ok (.obj _ _), S'), h1 => exact h1.elim
    · exact h1.elim
  refine PySem.W.callWith_K (h₀ := X.base) I.ok.mod.kin M.kp
    (thn ((ha Wx tk).run pos pins s σ H _ I h') fun us s1 ⟨vs, H1, I1, r, q⟩ => ⟨I1.kIn, ?_⟩) he hpl
  exact run_mk M F hr Cc.grd hb tk I1 r q

/-! ### a property -/
variable {tc : Nat → Option Nat} {at_ : Nat → Nat → D → Option D}
def xProp (tc : Nat → Option Nat) (c : Nat) (fn : Fn) (fo : EX) : EX := fun ρ S => bnd (fo ρ S) fun d S1 => if clsD tc S1 d = some c then match fn [d] S1 with
  | some (.ok r, S2) => some (.ok r, S2)
  | _ => none
  else none
theorem ge_prop {c : Nat} {fname : Str} {pr : Addr} (Cc : Ctx X) (TG : Tags G X.K tc at_) (he : GE G X e fo) (cl : Cls X.K (G.cls c)) (hp : PropOf X.K (G.cls c) fname pr f) (hn : ∀ i, i < G.nf → G.fname i ≠ fname)
    (F : FG X.prog X.w X.K X.mg X.base k f fd ps (spG G X.K 1 fn)) (hr : Room (k + 1) X.A) (hb : Binds X.K fd ps [])
    (hab : attributeBase e fname X.env (eval e X.env) = eval e X.env) : GE G X (.Attribute e fname pos) (xProp tc c fn fo) := by
  intro Wx tk
  refine ⟨fun pins s σ H Q I h => ?_⟩
  obtain ⟨ρ, S, W, E, R, h⟩ := h
  have h' : tE G X.K Wx fo σ H (fun x H1 => ∃ a dx fv, x = .ref a ∧ H1 a = some (.ins (G.cls c) dx fv) ∧ spG G X.K 1 fn [.ref a] H1 Q (fun _ _ _ => False)) :=
    tE_of pkE E R h fun d S1 v H1 W1 T1 E1 R1 r1 h1 => by
      split at h1
      · rename_i ec
        obtain ⟨a, dx, fv, rfl, e1, e2⟩ := RS.cls TG R1 r1 ec
        refine ⟨a, dx, fv, rfl, e1, [d], S1, W1, .cons r1 .nil, rfl, R1, ?_⟩
        generalize fn [d] S1 = z at h1 ⊢
        match z, h1 with
        | none, h1 => exact h1.elim
        | some (.error _, _), h1 => exact h1.elim
        | some (.ok r, S2), h1 => exact h1
      · exact h1.elim
  refine attr_of hab (thn ((he Wx tk).run pins s σ H _ I h') fun u s1 ⟨y, H1, I1, ry, a, dx, fv, ex, ea, q⟩ => ?_)
  subst ex
  obtain rfl : u = Value.ref a := ry
  obtain ⟨mA, O, _, _, _, _⟩ := ins_get I1.hok ea
  obtain ⟨od, J, _⟩ := O.look
  obtain ⟨rest, hrec⟩ := hp.rec_
  have I2 := I1.tok (s1.toks + 1)
  have hl : ([Value.ref a] ++ []).length = ps.length := by rw [← F.len _ _ _ _ q]; rfl
  have hc : (PySem.W.clsIn X.K (G.cls c)).isSome = true := by
    obtain ⟨cd, hc, _⟩ := PySem.W.any_some cl.hd
    rw [hc]; rfl
  have bb := hb { s1 with toks := s1.toks + 1 } [.ref a] I2.kIn hl
  refine PySem.W.get_bind I1.kIn J (PySem.W.plainGet_of (cl.get fname)).1 (PySem.W.findObj_data hc hp.at_ hp.get hp.tak)
    (PySem.W.plainGet_of (cl.get fname)).2 (wpAny_call (PySem.W.prop_get (s := { s1 with toks := s1.toks + 1 }) I1.kIn hrec ?_))
  refine codeAny_mono (F.run X.A.in1 X.stack { s1 with toks := s1.toks + 1 } H1 ⟨[.ref a], []⟩ [.ref a] [.ref a] Q (fun _ _ _ => False) hr.in1 Cc.grd I2.env0.in1 bb (.cons rfl .nil) q) fun z s' hq => ?_
  match z, hq with
  | .error er, hq =>
    obtain ⟨_, _, _, _, _, _, _, _, _, _, _, _, zf⟩ := hq
    exact zf.elim
  | .ok (.ret u), hq =>
    obtain ⟨v, H', I3, rv, q3⟩ := I2.after hq
    show wpAny _ _ (handedOut u) _ _ _
    rw [PySem.W.handedOut_of (handed_of rv)]
    exact wpAny_pure ⟨v, H', I3, rv, q3⟩

/-! ### own == -/
def gOwnEq (tc : Nat → Option Nat) (c : Nat) (fn : Fn) (x y : D) (S : Sto) : Res Bool := if clsD tc S x = some c ∧ clsD tc S y = some c then match fn [x, y] S with
  | some (.ok (.bl b), S2) => some (.ok b, S2)
  | _ => none
  else none
def rOwnEq (G : Sig) (K : PySem.W.Frag) (C : Addr) (fn : Fn) : R2 := fun u v H Q => ∃ a b dx dy fv gv, u = .ref a ∧ v = .ref b ∧ H a = some (.ins C dx fv) ∧ H b = some (.ins C dy gv) ∧ spG G K 2 fn [u, v] H (fun w H' => ∃ k, w = .bl k ∧ Q (.bl k) H') (fun _ _ _ => False)
theorem op_ownEq {c : Nat} (Cc : Ctx X) (F : FG X.prog X.w X.K X.mg X.base k f fd ps (spG G X.K 2 fn)) (hr : Room k X.A) (hb : Binds X.K fd ps [])
    (hs : PySem.W.findIn X.K (.ref (G.cls c)) "__eq__" = some (some (.ref f))) (hf : PySem.W.isFn X.K (.ref f) = true) : OpR X (compareOp .Eq) (rOwnEq G X.K (G.cls c) fn) := by
  rintro pins s σ H x y u v Q I rx ry ⟨a, b, dx, dy, fv, gv, rfl, rfl, ha, hb', hsp⟩
  cases rx
  cases ry
  show wpAny (model X.prog X.w) X.A (richCompare .Eq (.ref a) (.ref b)) (EP X pins σ Q) X.xe s
  obtain ⟨mA, JA, _⟩ := ins_get I.hok ha
  obtain ⟨mB, JB, _⟩ := ins_get I.hok hb'
  obtain ⟨od, JA, _⟩ := JA.look
  obtain ⟨od', JB, _⟩ := JB.look
  obtain ⟨mm, hF⟩ := I.fr
  refine PySem.W.cmp_K (op := .Eq) (tb := .ref (G.cls c)) hr.units0 hF I.ok.mod.kin JA JB.type (by simp [PySem.W.notFirst]) hs hf ?_
  have hl := F.len _ _ _ _ hsp
  have bb := hb s [.ref a, .ref b] I.kIn (by simpa using hl)
  rw [List.append_nil] at bb
  refine wpAny_call (codeAny_mono (F.run X.A X.stack s H ⟨[.ref a, .ref b], []⟩ [.ref a, .ref b] [.ref a, .ref b] _ (fun _ _ _ => False) hr Cc.grd I.env0 bb (.cons rfl (.cons rfl .nil)) hsp) fun z s' hq => ?_)
  match z, hq with
  | .error er, hq =>
    obtain ⟨_, _, _, _, _, _, _, _, _, _, _, _, zf⟩ := hq
    exact zf.elim
  | .ok (.ret w), hq =>
    obtain ⟨v, H', I', rv, kk, ev, q⟩ := I.after hq
    subst ev
    cases rv
    exact ⟨.bl kk, H', I', rfl, q⟩
theorem ok_ownEq {c : Nat} (TG : Tags G X.K tc at_) : OpOkB G X (rOwnEq G X.K (G.cls c) fn) (gOwnEq tc c fn) := by
  intro Wx σ Q W S H x y u v R rx ry h
  unfold gOwnEq at h
  split at h
  · rename_i cc
    obtain ⟨a, dx, fv, rfl, e1, _⟩ := RS.cls TG R rx cc.1
    obtain ⟨b, dy, gv, rfl, e2, _⟩ := RS.cls TG R ry cc.2
    refine ⟨a, b, dx, dy, fv, gv, rfl, rfl, e1, e2, [x, y], S, W, .cons rx (.cons ry .nil), rfl, R, ?_⟩
    generalize fn [x, y] S = z at h ⊢
    match z, h with
    | none, h => exact h.elim
    | some (.error _, _), h => exact h.elim
    | some (.ok (.bl k), S2), h =>
      intro w H' W' T R' r
      cases r
      exact ⟨k, rfl, h H' W' T R'⟩
    | some (.ok .non, S2), h => exact h.elim
    | some (.ok (.int _), S2), h => exact h.elim
    | some (.ok (.str _), S2), h => exact h.elim
    | some (.ok (.tup _), S2), h => exact h.elim
    | some (.ok (.lst _), S2), h => exact h.elim
    | some (.ok (.scr _), S2), h => exact h.elim
    | some (.ok (.cell _), S2), h => exact h.elim
    | some (.ok (.obj _ _), S2), h => exact h.elim
  · exact h.elim
/-! ### isinstance(x, C), C an own class -/
structure IsC (K : PySem.W.Frag) (C : Addr) : Prop where
  cl : Cls K C
  ha : PySem.W.findIn K (.ref C) "__class__" = some (some (.builtin "object.__class__"))
  hn : PySem.W.specialIn K (.builtin "object.__class__") "__get__" = some (some (.builtin "getset_descriptor.__get__"))
  ht : PySem.W.takesIn K (.builtin "object.__class__") = some true
  hm : PySem.W.mroIn K C (.type "object") = some true
/-- .. of a thing of that class -/
def xIsi (tc : Nat → Option Nat) (c : Nat) (fo : EX) : EX := fun ρ S => bnd (fo ρ S) fun d S1 => if clsD tc S1 d = some c then some (.ok (.bl true), S1) else none
theorem ge_isi {c : Nat} {y : Str} {p2 : Pos} (TG : Tags G X.K tc at_) (hg : Gl X "isinstance") (hm : X.mg "isinstance" = none) (he : GE G X e fo) (gy : Gl X y) (my : X.mg y = some (.ref (G.cls c))) (ic : IsC X.K (G.cls c)) (hk : PySem.W.kitOne X.K (.ref (G.cls c)) (.ref (G.cls c)) = some true)
    (hyd : (y == ("__debug__" : Str)) = false := by decide)
    (h1 : starEach [e, .Name y p2] X.env = (false, eval e X.env) :: starEach [.Name y p2] X.env := by rfl) (h2 : starEach [.Name y p2] X.env = (false, eval (.Name y p2) X.env) :: starEach [] X.env := by rfl) (hpl : (backTo pos (starEach [.Name y p2] X.env)).any (·.1) = false := by rfl) :
    GE G X (.Call (.Name "isinstance" p) [e, .Name y p2] [] pos) (xIsi tc c fo) := by
  intro Wx tk
  refine pe_imp (pe_callB call_isi hg hm (by decide +kernel) (pa_cons (he Wx tk) (pa_cons (pe_glob gy my (v := .ref (G.cls c)) rfl hyd) pa_nil h2) h1) (he := h1) (hpl := hpl)) ?_
  rintro σ H Q ⟨ρ, S, W, E, R, h⟩
  refine tE_of pkE E R h fun d S1 v H1 W1 T1 E1 R1 r1 h1 => ?_
  split at h1
  · rename_i ec
    obtain ⟨a, dx, fv, rfl, e1, _⟩ := RS.cls TG R1 r1 ec
    exact ⟨.ref a, .ref (G.cls c), .ref (G.cls c), .ref (G.cls c), true, rfl, .own _, .base (.ins e1 ic.cl ic.ha ic.hn ic.ht ic.hm), hk, h1 _ H1 W1 (.refl _ _) R1 (.bl true)⟩
  · exact h1.elim
end

/-! ### the law's end -/
theorem law_callG {P : Program} {w : World} {K : PySem.W.Frag} {mg mb : Str → Option Value} {k : Nat} {fa a : Addr} {fd : FuncData} {x : Str} {G : Sig} {fn : Fn} {s1 : Shared} {vs : List Value} {ns : List Int}
    (kx : K.In s1.heap) (hns : s1.heap.Ns mainGlobals mg) (hb : s1.heap.Ns builtinsNs mb) (hbb : ∀ x : Str, x ≠ "__name__" → mb x = bootBuiltins x) (hlim : s1.heap.NoLimit) (hg : s1.gens = #[])
    (ha : s1.heap.get? a = some { cls := .type "list", data := .seq vs.toArray }) (hi : IntsAre vs ns) (hl : ns.length ≤ sizeLine) (hr : Room k callerA)
    (F : ∀ base : Heap, K.In base → base.Ns mainGlobals mg → FG P w K mg base k fa fd [x] (spG G K 1 fn)) (hbind : ∀ (s : Shared) (u : Value), BindsTo s fd ⟨[u], []⟩ [(x, u)])
    (hfn : ∃ S', fn [.scr ns] [] = some (.ok (.bl true), S')) :
    codeAny (model P w) callerA (.call (.ref fa) ⟨[.ref a], []⟩) (fun r s' => r = .ok (.ret (.bool true)) ∧ OldK s1.heap s'.heap ∧ s'.os = s1.os ∧ AllBare s'.gens) s1 := by
  have rv := vals_ints hi
  have lv := hi.length
  have core : ∀ H : Hp, Only H → SqL K H a (ns.map V.int) → HOk P w H s1.heap → (∀ b, H b ≠ none → b = a) → (H a ≠ none → K.lookup a = none) →
      codeAny (model P w) callerA (.call (.ref fa) ⟨[.ref a], []⟩) (fun r s' => r = .ok (.ret (.bool true)) ∧ OldK s1.heap s'.heap ∧ s'.os = s1.os ∧ AllBare s'.gens) s1 := by
    intro H hO hS hok hA hK
    have nA : ∀ {b : Addr} {o : Obj} {es : Array DictEntry} {ep : Nat}, s1.heap.get? b = some o → o.data = .dict es ep → H b = none := fun {b o es ep} e d => by
      cases q : H b with
      | none => rfl
      | some u =>
        have e' : b = a := hA b (by rw [q]; exact fun z => nomatch z)
        rw [e', ha] at e
        cases e
        exact nomatch (show Data.seq vs.toArray _ = Data.dict es ep from d)
    have nsK : ∀ {b : Addr} {m : Str → Option Value}, s1.heap.Ns b m → (hidT s1.heap H).Ns b m := fun {b m} h => by
      obtain ⟨o, es, ep, e, d, r⟩ := h
      exact ⟨o, es, ep, hidT_get e (nA e d), d, r⟩
    have kb : K.In (hidT s1.heap H) := fun b o e => hidT_get (kx b o e) (by
      cases q : H b with
      | none => rfl
      | some u =>
        have nn : H b ≠ none := by rw [q]; exact fun z => nomatch z
        have e' : b = a := hA b nn
        rw [e'] at nn e
        rw [hK nn] at e
        cases e)
    have hM : Mod K mg (hidT s1.heap H) := ⟨kb, nsK hns, ⟨mb, nsK hb, hbb⟩, let ⟨mc, h1, h2⟩ := hlim; ⟨mc, nsK h1, h2⟩⟩
    have e0 : Env0 P w K mg (hidT s1.heap H) callerA [] s1 H :=
      ⟨rfl, hM, fun b o e => of_hidT e, Nat.le_of_eq (hidT_size _ _), trivial, fun b hb => absurd (show b ∈ ([] : List Addr) from hb) List.not_mem_nil, hok, .of_eq hg⟩
    have R0 : RS G K ⟨H, fun _ => none, [], fun _ => none⟩ [] H := ⟨fun _ _ h => h, (fun _ _ _ z => nomatch z), rfl, List.nodup_nil, (fun _ z => nomatch z), (fun _ z => nomatch z), (fun n c z => nomatch z), (fun _ _ _ z => nomatch z)⟩
    obtain ⟨S', hS'⟩ := hfn
    have hsp : spG G K 1 fn [.ref a] H (fun v _ => v = .bl true) (fun _ _ _ => False) := by
      refine ⟨[.scr ns], [], ⟨H, fun _ => none, [], fun _ => none⟩, .cons (.scr hS) .nil, rfl, R0, ?_⟩
      rw [hS']
      intro v H' W' T R r
      cases r
      rfl
    refine codeAny_mono ((F _ kb (nsK hns)).run callerA [] s1 H ⟨[.ref a], []⟩ [.ref a] [.ref a] _ _ hr rfl e0 (hbind s1 (.ref a)) (.cons rfl .nil) hsp) fun z s' h => ?_
    match z, h with
    | .error e, h =>
      obtain ⟨_, _, _, _, _, _, _, _, _, _, _, _, zf⟩ := h
      exact zf.elim
    | .ok (.ret u), h =>
      obtain ⟨v, H', os, bare, un, hok', r', q⟩ := h
      subst q
      obtain rfl : u = Value.bool true := r'
      refine ⟨rfl, OldK.of_keep fun b o e => ?_, os, bare⟩
      cases q : H b with
      | none => exact un.keep b o e q List.not_mem_nil List.not_mem_nil
      | some u =>
        rcases hO b with z | ⟨ob, xs, z⟩
        · rw [q] at z; cases z
        · obtain ⟨e1, _⟩ := hok b _ z
          obtain ⟨e2, _⟩ := hok' b _ (un.frzs b ob _ z)
          rw [e] at e1
          cases e1
          exact e2
  cases hk : K.lookup a with
  | some o =>
    have e := kx a o hk
    rw [ha] at e
    cases e
    exact core (fun _ => none) (fun _ => .inl rfl) (.inr ⟨_, vs.toArray, _, hk, rfl, rfl, rfl, by rw [List.size_toArray, lv]; exact hl, by simpa using rv⟩)
      (fun b u z => nomatch z) (fun b z => absurd rfl z) fun z => absurd rfl z
  | none =>
    refine core (fun b => if b = a then some (.frz { cls := .type "list", data := .seq vs.toArray } (.lst (ns.map V.int))) else none) (fun b => ?_)
      (.inl (.inr ⟨{ cls := .type "list", data := .seq vs.toArray }, if_pos rfl⟩)) (fun b u z => ?_) (fun b z => ?_) fun _ => hk
    · by_cases hb : b = a
      · exact .inr ⟨_, _, if_pos hb⟩
      · exact .inl (if_neg hb)
    · by_cases hb : b = a
      · have z2 := (if_pos hb).symm.trans z
        cases z2
        rw [hb]
        exact ⟨ha, by rw [List.length_map]; exact hl, vs, _, rv, ha⟩
      · exact nomatch (if_neg hb).symm.trans z
    · by_cases hb : b = a
      · exact hb
      · exact absurd (if_neg hb) z
theorem walkG {l : PySem.W.OpenLaw} {n k : Nat} {q : Program} {loose : List Str} {XP : (Str → Option Value) → Heap → Prop} {YP : World → Heap → Prop} {d : DefRec} {K : Params → PySem.W.Frag} {fn : Fn} {x : Str}
    (hn : l.most = some n) (hn2 : n ≤ sizeLine) (hdf : d.params.defaults = []) (hr : Room k callerA)
    (hY : ∀ (w : World) (h : Heap), YP w h → (K w.params).In h)
    (F : ∀ (w : World) (mg : Str → Option Value) (fa : Addr) (h : Heap), (K w.params).In h → h.Ns mainGlobals mg → mg d.name = some (.ref fa) →
      ∃ (fd : FuncData) (G : Sig), (∀ (s : Shared) (u : Value), BindsTo s fd ⟨[u], []⟩ [(x, u)]) ∧
        ∀ base : Heap, (K w.params).In base → base.Ns mainGlobals mg → FG l.prog w (K w.params) mg base k fa fd [x] (spG G (K w.params) 1 fn))
    (hfn : ∀ ns : List Int, ns.length ≤ n → ∃ S', fn [.scr ns] [] = some (.ok (.bl true), S')) :
    PySem.W.WalkO q loose XP YP l.row.toRowW d [] (fun f vs => PySem.call f vs) := by
  refine Att.attach_call hn hdf fun w s0 s1 mg mb fa o pm cd doc a vs ns Gd Y ho hd hcd hmg hobj hints hlen hg => ?_
  have kx := hY w _ Y
  obtain ⟨fd, G, hb, hF⟩ := F w mg fa _ kx Gd.T.g hmg
  exact law_callG kx Gd.T.g Gd.T.b Gd.T.builtins Gd.T.nolimit hg hobj hints (Nat.le_trans hlen hn2) hr hF hb (hfn ns hlen)
end EV

/-! E9: more forms; what a text gives. -/
namespace EV
open PySem PySem.Spec PyProof.Rows L2
section
variable {G : Sig} {X : Cx} {e a b c : Expr} {fa fb fc : EX} {pos : Pos}
theorem Ctx.eqU (C : Ctx X) : X.A.units + 64 < cLine := by have := C.un; omega
theorem Ctx.reU (C : Ctx X) : X.A.units + 100 < cLine := by have := C.un; omega
theorem Ctx.blk (C : Ctx X) {s : Shared} {H : Hp} {scope : Scope} {cenv : Env} {fp : List Addr} : Ctx (X.blk s H scope cenv fp) :=
  ⟨C.calm, PassesOwn.never, C.grd, C.nd, C.un⟩
theorem gv (i : Nat) {x : Str} {pos : Pos} (hN : X.N[i]? = some x := by rfl) (hv : Vis X.env.scope x := by first | exact Or.inl rfl | exact Or.inr (Or.inl rfl) | exact Or.inr (Or.inr rfl))
    (hd : (x == ("__debug__" : Str)) = false := by decide) (hcd : (x == ("__classdict__" : Str)) = false := by decide) : GE G X (.Name x pos) (xVar i) := ge_var hN hv hd hcd
/-- a name whose cell holds a list: the list for ever -/
def xFrzV (i : Nat) : EX := fun ρ S => match ρ[i]? with
  | some (some (.cell n)) => match S[n]? with
    | some (some (.lst xs)) => some (.ok (.lst xs), S.set n none)
    | _ => none
  | _ => none
theorem gvF (i : Nat) {x : Str} {pos : Pos} (hN : X.N[i]? = some x := by rfl) (hv : Vis X.env.scope x := by first | exact Or.inl rfl | exact Or.inr (Or.inl rfl) | exact Or.inr (Or.inr rfl))
    (hd : (x == ("__debug__" : Str)) = false := by decide) (hcd : (x == ("__classdict__" : Str)) = false := by decide) : GE G X (.Name x pos) (xFrzV i) := by
  intro Wx tk
  refine pe_imp (pe_var hN hv hd hcd) ?_
  rintro σ H Q ⟨ρ, S, W, E, R, h⟩
  unfold xFrzV at h
  split at h
  · rename_i n e
    split at h
    · rename_i xs q
      obtain ⟨v, h1, h2⟩ := E.2 i _ e
      cases h2 with
      | cell hn =>
        obtain ⟨W', T, R', r'⟩ := R.freeze q hn
        exact ⟨_, h1, h _ H W' T R' r'⟩
    · exact h.elim
  · exact h.elim
/-- a op1 b op2 c -/
def xChain (g g' : D → D → Sto → Res Bool) (a b c : EX) : ET := fun ρ S => bnd (a ρ S) fun x S1 => bnd (b ρ S1) fun y S2 => bnd (g x y S2) fun k S3 => if k then bnd (c ρ S3) fun z S4 => g' y z S4 else some (.ok false, S3)
theorem tChain_of {op op' : CmpOp} {r r' : R2} {g g' : D → D → Sto → Res Bool} (hg : OpOkB G X r g) (hg' : OpOkB G X r' g') {Wx : WX} {σ : L2.St} {Q : VK} {W : Wd} {S : Sto} {H : Hp} {ρ : Frm} (E : RE X.K W ρ σ) (R : RS G X.K W S H)
    (h : PostT G X.K Wx σ (fun b H' => Q (.bl b) H') W H (xChain g g' fa fb fc ρ S)) : tChain r r' (tE G X.K Wx fa) (tE G X.K Wx fb) (tE G X.K Wx fc) σ H Q := by
  refine tE_of pkT E R h fun x S1 u H1 W1 T1 E1 R1 r1 h1 => tE_of pkT E1 R1 h1 fun y S2 v H2 W2 T2 E2 R2 r2 h2 => ?_
  refine hg Wx σ _ W2 S2 H2 x y u v R2 (r1.mono T2.le) r2 ?_
  generalize g x y S2 = z at h2 ⊢
  match z, h2 with
  | none, h2 => exact h2.elim
  | some (.error e, S3), h2 => exact h2
  | some (.ok true, S3), h2 =>
    intro H3 W3 T3 R3
    refine ⟨true, rfl, iteT (tE_of pkT (E2.mono T3.le) R3 (pkT.later _ _ _ _ _ _ T3 R3 h2) fun w S4 wv H4 W4 T4 E4 R4 r4 h4 => ?_)⟩
    exact hg' Wx σ Q W4 S4 H4 y w v wv R4 ((r2.mono T3.le).mono T4.le) r4 h4
  | some (.ok false, S3), h2 =>
    intro H3 W3 T3 R3
    exact ⟨false, rfl, iteF (h2 H3 W3 T3 R3)⟩
theorem ge_chain {op op' : CmpOp} {r r' : R2} {g g' : D → D → Sto → Res Bool} (ho : OpR X (compareOp op) r) (hg : OpOkB G X r g) (ho' : OpR X (compareOp op') r') (hg' : OpOkB G X r' g') (ha : GE G X a fa) (hb : GE G X b fb) (hc : GE G X c fc)
    (hm : lastMarks [op, op'] [b, c] = false := by with_unfolding_all rfl) : GE G X (.Compare a [op, op'] [b, c] pos) (xBl (xChain g g' fa fb fc)) := by
  intro Wx tk
  refine pe_imp (pe_chain ho ho' (ha Wx tk) (hb Wx tk) (hc Wx tk) hm) ?_
  rintro σ H Q ⟨ρ, S, W, E, R, h⟩
  exact tChain_of (op := op) (op' := op') hg hg' E R (xBl_post h)
theorem gt_chain {op op' : CmpOp} {r r' : R2} {g g' : D → D → Sto → Res Bool} (ho : OpR X (compareOp op) r) (hg : OpOkB G X r g) (ho' : OpR X (compareOp op') r') (hg' : OpOkB G X r' g') (ha : GE G X a fa) (hb : GE G X b fb) (hc : GE G X c fc)
    (hm : lastMarks [op, op'] [b, c] = false := by with_unfolding_all rfl) : GT G X (.Compare a [op, op'] [b, c] pos) (xChain g g' fa fb fc) := by
  intro Wx tk
  refine pt_imp (pt_chain ho ho' (ha Wx tk) (hb Wx tk) (hc Wx tk) hm) ?_
  rintro σ H Q ⟨ρ, S, W, E, R, h⟩
  refine tChain_of (op := op) (op' := op') (Q := fun x H' => ∃ k, x = .bl k ∧ Q k H') hg hg' E R ?_
  generalize xChain g g' fa fb fc ρ S = z at h ⊢
  match z, h with
  | none, h => exact h.elim
  | some (.ok k, S1), h => exact fun H' W' T R' => ⟨k, rfl, h H' W' T R'⟩
  | some (.error e, S1), h => exact h
/-- a = b = e -/
def xAsg2 (g1 g2 : D → Frm → Sto → Option Frm) (f : EX) : ES := fun ρ S => bndS (f ρ S) ρ fun d S1 => match g1 d ρ S1 with
  | some ρ1 => match g2 d ρ1 S1 with
    | some ρ2 => some (.nx ρ2 S1)
    | none => none
  | none => none
theorem gs_asg2 {t1 t2 : Expr} {is js : List Nat} {g1 g2 : D → Frm → Sto → Option Frm} (he : GE G X e fa) (h1 : GG G X t1 is g1) (h2 : GG G X t2 js g2)
    (ha : (assignEach [t1, t2] X.env).map (·.2) = [assign t1 X.env, assign t2 X.env] := by rfl) (hw : swappedStores [t1, t2] e X.env = pure none := by rfl) : GS G X (.Assign [t1, t2] e pos) (xAsg2 g1 g2 fa) := by
  intro Wx tk
  refine ps_imp (ps_asg2 (he Wx tk) h1 h2 ha hw) ?_
  rintro D σ H ⟨ρ, S, W, E, R, h⟩
  refine tE_ofS E R h fun d S1 v H1 W1 T1 E1 R1 r1 q1 => ?_
  generalize z1 : g1 d ρ S1 = o1 at q1
  match o1, q1 with
  | none, q1 => exact q1.elim
  | some ρ1, q1 =>
    dsimp only at q1
    generalize z2 : g2 d ρ1 S1 = o2 at q1
    match o2, q1 with
    | none, q1 => exact q1.elim
    | some ρ2, q1 => exact ⟨d, ρ, S1, W1, E1, R1, r1, ρ1, z1, fun σ1 F1 _ => ⟨d, ρ1, S1, W1, F1, R1, r1, ρ2, z2, fun σ2 F2 _ => q1 σ2 H1 W1 (.refl _ _) F2 R1⟩⟩
end
/-- the number in a slot -/
def slotN (i : Nat) (ρ : Frm) : Nat := match ρ[i]? with
  | some (some (.int k)) => k.toNat
  | _ => 0
/-- data without cells: the world's cells play no part -/
theorem Rep.flat {K : PySem.W.Frag} {W W' : Wd} {d : D} {v : V} (h : D.low 0 d = true) (hH : W.H = W'.H) (hB : W.B = W'.B) (r : Rep K W d v) : Rep K W' d v := by
  have q := Rep.cut (W := W) (W' := { W' with as := [] }) (n := 0) hH.symm hB.symm rfl r h
  exact Rep.mono (W := { W' with as := [] }) (W' := W') ⟨fun a o e => e, fun a x e => e, List.nil_prefix, fun a x e => e⟩ q
/-! ### what the top's end gives of a def -/
structure FnAt (K : PySem.W.Frag) (mg : Str → Option Value) (x : Str) (st : Stmt) (ps : List Str) (f : Addr) (fd : FuncData) : Prop where
  fn : Fun K x x st f fd
  mg : mg x = some (.ref f)
  bd : Binds K fd ps []
structure PrAt (K : PySem.W.Frag) (x qual : Str) (st : Stmt) (ps : List Str) (f : Addr) (fd : FuncData) : Prop where
  fn : Fun K x qual st f fd
  bd : Binds K fd ps []
structure MtAt (K : PySem.W.Frag) (C : Addr) (m qual : Str) (st : Stmt) (ps : List Str) (f : Addr) (fd : FuncData) : Prop where
  fn : Fun K m qual st f fd
  mt : Meth K C m f
  bd : Binds K fd ps []
end EV

/-! E10: dicts that are cells. -/
namespace EV
open PySem PySem.Spec PyProof.Rows L2

def findK (k : Key) : List (Key × D) → Option D
  | [] => none
  | (j, d) :: r => if j = k then some d else findK k r
def delK (kvs : List (Key × D)) (k : Key) : List (Key × D) := kvs.filter fun p => decide (p.1 ≠ k)
section
variable {K : PySem.W.Frag} {W : Wd} {k : Key}
theorem RepF.len {κ : Type} : ∀ {ks : List (κ × D)} {vs : List (κ × V)}, RepF K W ks vs → ks.length = vs.length
  | _, _, .nil => rfl
  | _, _, .cons _ r => by rw [List.length_cons, List.length_cons, RepF.len r]
theorem RepF.find : ∀ {ks : List (Key × D)} {vs : List (Key × V)} {d : D}, RepF K W ks vs → findK k ks = some d → ∃ v, valV vs k = some v ∧ Rep K W d v
  | _, _, _, .nil, e => by cases e
  | (j, x) :: _, (i, v) :: _, d, .cons h r, e => by
    obtain ⟨h1, h2⟩ := h
    have h1' : j = i := h1
    subst h1'
    unfold findK at e
    by_cases z : j = k
    · rw [if_pos z] at e
      cases e
      exact ⟨v, valV_pos z, h2⟩
    · rw [if_neg z] at e
      obtain ⟨u, q1, q2⟩ := RepF.find r e
      exact ⟨u, by rw [valV_neg (p := (j, v)) z]; exact q1, q2⟩
theorem RepF.no : ∀ {ks : List (Key × D)} {vs : List (Key × V)}, RepF K W ks vs → findK k ks = none → valV vs k = none
  | _, _, .nil, _ => valV_nil
  | (j, x) :: _, (i, v) :: _, .cons h r, e => by
    obtain ⟨h1, h2⟩ := h
    have h1' : j = i := h1
    subst h1'
    unfold findK at e
    by_cases z : j = k
    · rw [if_pos z] at e
      cases e
    · rw [if_neg z] at e
      rw [valV_neg (p := (j, v)) z]
      exact RepF.no r e
theorem RepF.del : ∀ {ks : List (Key × D)} {vs : List (Key × V)}, RepF K W ks vs → RepF K W (delK ks k) (dropK vs k)
  | _, _, .nil => .nil
  | (j, x) :: _, (i, v) :: _, .cons h r => by
    have h1' : j = i := h.1
    subst h1'
    unfold delK dropK
    rw [List.filter_cons, List.filter_cons]
    by_cases z : j = k
    · simp only [z, ne_eq, not_true_eq_false, decide_false, Bool.false_eq_true, if_false]
      exact RepF.del r
    · simp only [z, ne_eq, not_false_eq_true, decide_true, if_true]
      exact .cons h (RepF.del r)
theorem RepF.snoc : ∀ {ks : List (Key × D)} {vs : List (Key × V)} {d : D} {v : V}, RepF K W ks vs → Rep K W d v → RepF K W (ks ++ [(k, d)]) (vs ++ [(k, v)])
  | _, _, _, _, .nil, h => .cons ⟨rfl, h⟩ .nil
  | _, _, _, _, .cons q r, h => .cons q (RepF.snoc r h)
end
theorem Stp.upd {W W2 : Wd} {H H2 : Hp} (T : Stp W H W2 H2) {p : Addr} (hp : H p = none) (o : HO) : Stp W H W2 (L2.upd H2 p o) :=
  ⟨T.le, fun b u e l => let ⟨h1, l1⟩ := T.lone b u e l; ⟨by rw [upd_ne (ne_of_none e hp)]; exact h1, l1⟩⟩
section
variable {G : Sig} {K : PySem.W.Frag} {Wx : WX} {σ : L2.St} {W W0 : Wd} {H H0 : Hp} {S : Sto} {ρ : Frm} {β : Type} {P : Wd → Hp → Res β → Prop}
/-- .. where the wish is told at an earlier moment -/
theorem tE_of0 {f : EX} {k : D → Sto → Res β} {Q' : VK} (pk : PKt G K Wx σ P) (T0 : Stp W0 H0 W H) (E : RE K W ρ σ) (R : RS G K W S H) (h : P W0 H0 (bnd (f ρ S) k))
    (c : ∀ d S' v H' W', Stp W H W' H' → RE K W' ρ σ → RS G K W' S' H' → Rep K W' d v → P W0 H0 (k d S') → Q' v H') : tE G K Wx f σ H Q' := by
  refine ⟨ρ, S, W, E, R, ?_⟩
  generalize f ρ S = r at h ⊢
  match r, h with
  | none, h => exact pk.no _ _ h
  | some (.ok d, S'), h => exact fun v H' W' T R' r => c d S' v H' W' T (E.mono T.le) R' r h
  | some (.error e, S'), h => exact fun cls dx H' W' T => pk.er _ _ _ _ h cls dx H' W' (T0.trans T)
end
section
variable {G : Sig} {X : Cx} {o e f a b : Expr} {fo fe ff fa fb : EX} {pos apos cpos : Pos}
/-- {k: v}, a cell -/
def xDic1 (fk fv : EX) : EX := fun ρ S => bnd (fk ρ S) fun x S1 => bnd (fv ρ S1) fun y S2 => match x with
  | .int i => some (.ok (.cell S2.length), S2 ++ [some (.dK [(.inl i, y)])])
  | _ => none
theorem ge_dic1 (hk : GE G X a fa) (hv : GE G X b fb) : GE G X (.Dict [some a] [b] pos) (xDic1 fa fb) := by
  intro Wx tk
  refine pe_imp (pe_disp (pps_cons (hk Wx tk) (hv Wx tk) pps_nil) rfl rfl (fun z => by cases z) (by simp)) ?_
  rintro σ H Q ⟨ρ, S, W, E, R, h⟩ p hp
  obtain ⟨T0, R0, L0⟩ := R.new hp (.dK [])
  refine tE_of0 pkE T0 E R0 h fun x S1 u H1 W1 T1 E1 R1 r1 h1 => tE_of0 pkE (T0.trans T1) E1 R1 h1 fun y S2 v H2 W2 T2 E2 R2 r2 h2 => ?_
  have r1' := r1.mono T2.le
  cases r1' with
  | int i =>
    obtain ⟨z1, L2'⟩ := (T1.trans T2).lone p (.dK []) upd_same L0
    refine ⟨z1, [(.inl i, v)], rfl, by simp, ?_⟩
    have R3 := R2.lone L2' (.dK (mergeK [] [(.inl i, v)]))
    have T3 := ((T0.trans T1).trans T2).upd hp (.dK (mergeK [] [(.inl i, v)]))
    obtain ⟨W4, le4, T4, R4, e4⟩ := R3.cell T3 hp L2' (c := .dK [(.inl i, y)]) ⟨_, upd_same, .cons ⟨rfl, r2⟩ .nil⟩
    exact h2 _ _ W4 T4 R4 (.cell e4)
  | _ => exact h2.elim
/-- {}, a cell -/
def xNewD : EX := fun _ S => some (.ok (.cell S.length), S ++ [some (.dK [])])
theorem ge_newD : GE G X (.Dict [] [] pos) xNewD := by
  intro Wx tk
  refine pe_imp pe_dnewK ?_
  rintro σ H Q ⟨ρ, S, W, E, R, h⟩ p hp
  obtain ⟨T0, R0, L0⟩ := R.new hp (.dK [])
  obtain ⟨W4, le4, T4, R4, e4⟩ := R0.cell T0 hp L0 (c := .dK []) ⟨_, upd_same, .nil⟩
  exact h _ _ W4 T4 R4 (.cell e4)
/-- a dict at a cell -/
def dicD (S : Sto) : D → Option (List (Key × D))
  | .cell n => match S[n]? with
    | some (some (.dK ks)) => some ks
    | _ => none
  | _ => none
theorem RS.dic {K : PySem.W.Frag} {W : Wd} {S : Sto} {H : Hp} (R : RS G K W S H) {d : D} {u : V} {ks : List (Key × D)} (r : Rep K W d u) (h : dicD S d = some ks) :
    ∃ n a vs, d = .cell n ∧ u = .ref a ∧ W.as[n]? = some a ∧ S[n]? = some (some (.dK ks)) ∧ H a = some (.dK vs) ∧ RepF K W ks vs := by
  unfold dicD at h
  split at h
  · rename_i n
    split at h
    · rename_i ks' q
      cases h
      cases r with
      | @cell a _ ha =>
        obtain ⟨a', z1, _, vs, z3, z4⟩ := R.cl n _ q
        rw [ha] at z1
        cases z1
        exact ⟨n, a, vs, rfl, rfl, ha, q, z3, z4⟩
    · cases h
  · cases h
/-- d != {} -/
def rNeE : R2 := fun x y H Q => ∃ a b ks, x = .ref a ∧ y = .ref b ∧ H a = some (.dK ks) ∧ H b = some (.dK []) ∧ Q (.bl (!ks.isEmpty)) H
theorem op_neE (hu : X.A.units < cLine) : OpR X (compareOp .NotEq) rNeE := by
  intro pins s σ H x y v u Q I rx ry h
  obtain ⟨a, b, ks, rfl, rfl, ea, eb, q⟩ := h
  cases ks with
  | nil => exact op_ne_dictA hu pins s σ H _ _ _ _ Q I rx ry ⟨a, b, [], [], rfl, rfl, ea, eb, rfl, fun p hp => (List.not_mem_nil hp).elim, q⟩
  | cons k0 ks =>
    obtain rfl : v = Value.ref a := rx
    obtain rfl : u = Value.ref b := ry
    obtain ⟨_, ya, va, ra, da⟩ := (show ObjOk X.prog X.w H s.heap a (.dK (k0 :: ks)) from I.hok a _ ea)
    obtain ⟨_, yb, vb, rb, db⟩ := (show ObjOk X.prog X.w H s.heap b (.dK []) from I.hok b _ eb)
    have la := ra.length
    have lb := rb.length
    rw [List.length_cons] at la
    rw [List.length_nil] at lb
    refine PySem.W.keq_ne (knd := mixKind X.prog X.w) (r := true) ya yb da db hu (fun z => absurd z (by omega)) ?_
    have e : (va.length == vb.length && true) = false := by
      rw [Bool.and_true, ← la, ← lb]; rfl
    rw [e]
    exact ⟨.bl true, H, I, rfl, q⟩
def gNeE : D → D → Sto → Res Bool := fun x y S => match dicD S x, dicD S y with
  | some ks, some [] => some (.ok (!ks.isEmpty), S)
  | _, _ => none
theorem RepF.emp {κ : Type} {K : PySem.W.Frag} {W : Wd} {ks : List (κ × D)} {vs : List (κ × V)} (r : RepF K W ks vs) : ks.isEmpty = vs.isEmpty := by
  cases r <;> rfl
theorem ok_neE : OpOkB G X rNeE gNeE := by
  intro Wx σ Q W S H x y u v R rx ry h
  unfold gNeE at h
  split at h
  · rename_i ks q1 q2
    obtain ⟨n, a, vs, rfl, rfl, _, _, e1, r1⟩ := R.dic rx q1
    obtain ⟨m, b, us, rfl, rfl, _, _, e2, r2⟩ := R.dic ry q2
    cases r2
    refine ⟨a, b, vs, rfl, rfl, e1, e2, ?_⟩
    rw [← r1.emp]
    exact h H W (.refl _ _) R
  · exact h.elim
/-- min(d) -/
def keysI : List (Key × D) → Option (List Int)
  | [] => some []
  | (.inl i, _) :: r => (keysI r).map (i :: ·)
  | (.inr _, _) :: _ => none
theorem keysI_is {K : PySem.W.Frag} {W : Wd} : ∀ {ks : List (Key × D)} {vs : List (Key × V)} {is : List Int}, RepF K W ks vs → keysI ks = some is → vs.map (·.1) = is.map Sum.inl
  | _, _, _, .nil, e => by cases e; rfl
  | (.inl j, x) :: ks, (i, v) :: vs, is, .cons h r, e => by
    have h1 : Sum.inl j = i := h.1
    subst h1
    rw [keysI] at e
    cases q : keysI ks with
    | none => rw [q] at e; cases e
    | some js =>
      rw [q] at e
      cases e
      rw [List.map_cons, List.map_cons, keysI_is r q]
  | (.inr _, _) :: _, _ :: _, _, .cons _ _, e => by cases e
def gMinK : List D → Sto → Res D
  | [x], S => match (dicD S x).bind keysI with
    | some is => match is.min? with
      | some m => some (.ok (.int m), S)
      | none => none
    | none => none
  | _, _ => none
theorem k_minK : CallOk G X rMinK gMinK := by
  intro Wx σ Q W S H ds vs R r h
  cases r with
  | nil => exact h.elim
  | @cons x _ _ _ h1 r =>
    cases r with
    | cons _ _ => exact h.elim
    | nil =>
      dsimp only [gMinK] at h
      split at h
      · rename_i is q
        split at h
        · rename_i m qm
          cases e : dicD S x with
          | none => rw [e] at q; cases q
          | some ks =>
            rw [e] at q
            obtain ⟨n, a, us, rfl, rfl, _, _, e1, r1⟩ := R.dic h1 e
            have hq : keysI ks = some is := q
            refine ⟨a, us, is, rfl, e1, keysI_is r1 hq, (fun z => by rw [z] at qm; cases qm), fun m' hm hle => ?_⟩
            obtain ⟨w1, w2⟩ := List.min?_eq_some_iff.mp qm
            have : m' = m := Int.le_antisymm (hle m w1) (w2 m' hm)
            rw [this]
            exact h _ H W (.refl _ _) R (.int _)
        · exact h.elim
      · exact h.elim
/-- d.pop(k) -/
def popK (o k : D) (S : Sto) : Res D := match o, k with
  | .cell n, .int i => match S[n]? with
    | some (some (.dK ks)) => match findK (.inl i) ks with
      | some d => some (.ok d, S.set n (some (.dK (delK ks (.inl i)))))
      | none => none
    | _ => none
  | _, _ => none
def xPop1 (fo fk : EX) : EX := fun ρ S => bnd (fo ρ S) fun d S1 => match dicD S1 d with
  | some _ => bnd (fk ρ S1) fun k S2 => popK d k S2
  | none => none
theorem ge_pop1 (ho : GE G X o fo) (he : GE G X e fe) (m : M1 X o "pop" apos e cpos) : GE G X (.Call (.Attribute o "pop" apos) [e] [] cpos) (xPop1 fo fe) := by
  intro Wx tk
  refine pe_imp (pe_dpop1 (ho Wx tk) (he Wx tk) m) ?_
  rintro σ H Q ⟨ρ, S, W, E, R, h⟩
  refine tE_of pkE E R h fun d S1 v H1 W1 T1 E1 R1 r1 h1 => ?_
  split at h1
  · rename_i ks0 q0
    obtain ⟨n, a, vs0, rfl, rfl, ha, _, e1, _⟩ := R1.dic r1 q0
    refine ⟨a, rfl, .inl ⟨vs0, .of e1⟩, ?_⟩
    refine tE_of pkE E1 R1 h1 fun k S2 u H2 W2 T2 E2 R2 r2 h2 => ?_
    unfold popK at h2
    split at h2
    · rename_i n' i en
      cases en
      split at h2
      · rename_i ks q
        split at h2
        · rename_i d qd
          cases r2
          obtain ⟨a', z1, _, vs, z3, z4⟩ := R2.cl n _ q
          rw [T2.le.at ha] at z1
          cases z1
          obtain ⟨w, w1, w2⟩ := z4.find qd
          refine ⟨vs, .inl i, w, z3, rfl, w1, ?_⟩
          obtain ⟨T3, R3⟩ := R2.put q (T2.le.at ha) (c' := .dK (delK ks (.inl i))) (o := .dK (dropK vs (.inl i))) ⟨_, upd_same, z4.del⟩
          exact h2 _ _ W2 T3 R3 w2
        · exact h2.elim
      · exact h2.elim
    · exact h2.elim
  · exact h1.elim
/-- d.setdefault(k, v) -/
def setdK (o k y : D) (S : Sto) : Res D := match o, k with
  | .cell n, .int i => match S[n]? with
    | some (some (.dK ks)) => if ks.length < cap then match findK (.inl i) ks with
      | some d => some (.ok d, S)
      | none => some (.ok y, S.set n (some (.dK (ks ++ [(.inl i, y)]))))
      else none
    | _ => none
  | _, _ => none
def xSetd (fo fk fv : EX) : EX := fun ρ S => bnd (fo ρ S) fun d S1 => match dicD S1 d with
  | some _ => bnd (fk ρ S1) fun k S2 => bnd (fv ρ S2) fun y S3 => setdK d k y S3
  | none => none
theorem ge_setd (ho : GE G X o fo) (he : GE G X e fe) (hf : GE G X f ff) (m : M2 X o "setdefault" apos e f cpos) : GE G X (.Call (.Attribute o "setdefault" apos) [e, f] [] cpos) (xSetd fo fe ff) := by
  intro Wx tk
  refine pe_imp (pe_dsetd (ho Wx tk) (he Wx tk) (hf Wx tk) m) ?_
  rintro σ H Q ⟨ρ, S, W, E, R, h⟩
  refine tE_of pkE E R h fun d S1 v H1 W1 T1 E1 R1 r1 h1 => ?_
  split at h1
  · rename_i ks0 q0
    obtain ⟨n, a, vs0, rfl, rfl, ha, _, e1, _⟩ := R1.dic r1 q0
    refine ⟨a, rfl, .inl ⟨vs0, .of e1⟩, ?_⟩
    refine tE_of pkE E1 R1 h1 fun k S2 u H2 W2 T2 E2 R2 r2 h2 => tE_of pkE E2 R2 h2 fun y S3 z H3 W3 T3 E3 R3 r3 h3 => ?_
    unfold setdK at h3
    split at h3
    · rename_i n' i en
      cases en
      split at h3
      · rename_i ks q
        split at h3
        · rename_i hc
          cases r2
          obtain ⟨a', z1, _, vs, z3, z4⟩ := R3.cl n _ q
          have ha3 := T3.le.at (T2.le.at ha)
          rw [ha3] at z1
          cases z1
          refine ⟨vs, .inl i, z3, rfl, Nat.lt_of_lt_of_le (by rw [← z4.len]; exact hc) cap_le, fun w hw => ?_, fun hn => ?_⟩
          · cases qd : findK (.inl i) ks with
            | none =>
              rw [z4.no qd] at hw
              cases hw
            | some d =>
              rw [qd] at h3
              obtain ⟨w', w1, w2⟩ := z4.find qd
              rw [w1] at hw
              cases hw
              exact h3 _ H3 W3 (.refl _ _) R3 w2
          · cases qd : findK (.inl i) ks with
            | some d =>
              obtain ⟨w', w1, w2⟩ := z4.find qd
              rw [w1] at hn
              cases hn
            | none =>
              rw [qd] at h3
              rw [putK_new _ hn]
              obtain ⟨T4, R4⟩ := R3.put q ha3 (c' := .dK (ks ++ [(.inl i, y)])) (o := .dK (vs ++ [(.inl i, z)])) ⟨_, upd_same, z4.snoc r3⟩
              exact h3 _ _ W3 T4 R4 (r3.mono (Wd.le.refl _))
        · exact h3.elim
      · exact h3.elim
    · exact h3.elim
  · exact h1.elim
end
end EV

/-! E11: lists repeated, a value kept at an object behind a tag. -/
namespace EV
open PySem PySem.Spec PyProof.Rows L2
section
variable {G : Sig} {X : Cx}
/-- xs * k -/
def gRepL (x y : D) (S : Sto) : Res (List D) := match lstD S x, y with
  | some xs, .int k => if -(2 ^ 62) ≤ k ∧ k < 2 ^ 62 ∧ xs.length * k.toNat ≤ cap then some (.ok (List.replicate k.toNat xs).flatten, S) else none
  | _, _ => none
theorem Reps.rep {K : PySem.W.Frag} {W : Wd} {ds : List D} {vs : List V} (r : Reps K W ds vs) : ∀ n : Nat, Reps K W (List.replicate n ds).flatten (List.replicate n vs).flatten
  | 0 => .nil
  | n + 1 => by
    rw [List.replicate_succ, List.replicate_succ, List.flatten_cons, List.flatten_cons]
    exact r.append (Reps.rep r n)
theorem ok_rep : OpOkF G X rRep gRepL := by
  intro Wx σ Q W S H x y u v R rx ry h
  unfold gRepL at h
  split at h
  · rename_i xs k e1
    split at h
    · rename_i c
      obtain ⟨a, vs, rfl, ha, r⟩ := R.lst rx e1
      cases ry with
      | int k =>
        refine ⟨a, k, vs, rfl, rfl, ha, by omega, by omega, Nat.le_trans (by rw [← r.length]; exact c.2.2) cap_le, fun p hp => ?_⟩
        obtain ⟨T, R', L⟩ := R.new hp (.lst (List.replicate k.toNat vs).flatten)
        exact h p _ _ W T R' hp L upd_same (r.rep _)
    · exact h.elim
  · exact h.elim
end
/-! ### what is kept at an object behind a tag: made when it is asked first -/
/-- the field number i of a thing with tag 0: None, or a thing of the tag t1 -/
structure MemoOk (G : Sig) (K : PySem.W.Frag) (c0 i t1 : Nat) (cu : D → D) : Prop where
  split : ∀ d a o W, G.inv 0 d a o W → ∃ dx fv v, o = .ins (G.cls c0) dx fv ∧ fv.length < 1000 ∧ fv.lookup (G.fname i) = some v ∧ (v = .non ∨ ∃ c, v = .ref c ∧ W.B c = some (t1, cu d)) ∧
    ∀ c, W.B c = some (t1, cu d) → G.inv 0 d a (.ins (G.cls c0) dx (putF (G.fname i) (.ref c) fv)) W
section
variable {G : Sig} {X : Cx} {R : Expr} {E : Expr} {fname m : Str} {c0 c1 t1 i : Nat} {cu : D → D}
/-- where the field is filled -/
def tRd (G : Sig) (K : PySem.W.Frag) (Wx : WX) (c0 i t1 : Nat) (fR : D → EX) : TE := fun σ H Q => ∃ ρ S W a dx fv c cd, RE K W ρ σ ∧ RS G K W S H ∧ σ[0]? = some (some (.ref a)) ∧ H a = some (.ins (G.cls c0) dx fv) ∧
  fv.lookup (G.fname i) = some (.ref c) ∧ W.B c = some (t1, cd) ∧ PostE G K Wx σ Q W H (fR (.obj t1 cd) ρ S)
def GRd (G : Sig) (X : Cx) (c0 i t1 : Nat) (R : Expr) (fR : D → EX) : Prop := ∀ Wx, Takes X Wx → PE X R (tRd G X.K Wx c0 i t1 fR)
variable {k n : Nat} {f : Addr} {fd : FuncData} {ps : List Str} {fn : Fn} {fr : EA} {o e : Expr} {es : List Expr} {self : Str} {p p2 p3 apos pos : Pos} {tc : Nat → Option Nat} {at_ : Nat → Nat → D → Option D} {fR : D → EX} {fE : EX}
/-- self.f.m(..) -/
theorem grd_meth {pl : Sem Bool} (Cc : Ctx X) (TG : Tags G X.K tc at_) (hN : X.N[0]? = some self) (hv : Vis X.env.scope self) (hd : (self == ("__debug__" : Str)) = false) (hcd : (self == ("__classdict__" : Str)) = false)
    (hb0 : attributeBase (.Name self p) fname X.env (eval (.Name self p) X.env) = eval (.Name self p) X.env) (hf : G.fname i = fname) (cl0 : Cls X.K (G.cls c0)) (nA0 : NoAttr X.K (G.cls c0) fname)
    (ht1 : tc t1 = some c1) (cl : Cls X.K (G.cls c1)) (hm : Meth X.K (G.cls c1) m f) (hn : ∀ i, i < G.nf → G.fname i ≠ m) (F : FG X.prog X.w X.K X.mg X.base k f fd ps (spG G X.K n fn)) (hr : Room k X.A) (hb : Binds X.K fd ps [])
    (ha : GA G X (e :: es) fr) (hst : starEach (e :: es) X.env = (false, eval e X.env) :: starEach es X.env := by rfl) (hpl : (backTo pos (starEach es X.env)).any (·.1) = false := by rfl)
    (ht : eval (.Call (.Attribute (.Attribute (.Name self p) fname p2) m apos) (e :: es) [] pos) X.env = (do
      let ov ← eval (.Attribute (.Name self p) fname p2) X.env
      standAt apos.atName
      let (f, first) ← holding [ov] (getMethod ov m pl)
      callWith pos f first (backTo pos (starEach (e :: es) X.env)) (backToKw pos (keywordEach [] X.env))) := by rfl) :
    GRd G X c0 i t1 (.Call (.Attribute (.Attribute (.Name self p) fname p2) m apos) (e :: es) [] pos) (fun c ρ S => bnd (fr ρ S) fun ds S2 => if ds.length + 1 = n then fn (c :: ds) S2 else none) := by
  intro Wx tk
  subst hf
  refine ⟨fun pins s σ H Q I h => ?_⟩
  obtain ⟨ρ, S, W, a, dx, fv, c, cd, E, R, hs, ea, lk, hB, h⟩ := h
  obtain ⟨_, oc, hc, hi⟩ := R.ob c t1 cd hB
  obtain ⟨dxc, fvc, rfl, _, nf⟩ := (TG.ok t1 c1 ht1).ins _ _ _ _ hi
  have he := pe_fld (pos := p2) (pe_var (pos := p) hN hv hd hcd) hb0
  refine PySem.W.methodCall_KW (pl := pl) (thn (he.run pins s σ H (fun v H1 => v = .ref c ∧ H1 = H) I ⟨_, hs, a, _, dx, fv, _, rfl, ea, cl0, nA0, lk, rfl, rfl⟩) fun u s1 ⟨x, H1, I1, rx, ex, eH⟩ => ?_) ht
  subst ex
  subst eH
  obtain rfl : u = Value.ref c := rx
  have q : tA G X.K Wx fr σ H1 (fun vs H2 => spG G X.K n fn (.ref c :: vs) H2 Q (WE Wx σ)) := tA_of pkE E R h fun ds S2 vs H2 W2 T2 E2 R2 r2 h2 => by
    split at h2
    · rename_i hl
      exact spG_of R2 (.cons (.obj (T2.le.b _ _ hB)) r2) hl h2
    · exact h2.elim
  refine getmeth_ok I1 hc cl hm (nf m hn) (PySem.W.callWith_K (first := [.ref c]) (h₀ := X.base) I.ok.mod.kin hm.kp
    (thn ((ha Wx tk).run pos pins s1 σ H1 _ I1 q) fun us s2 ⟨vs, H2, I2, r, q2⟩ => ⟨I2.kIn, ?_⟩) hst hpl)
  exact run_fg (us := .ref c :: us) (vs := .ref c :: vs) F hr Cc.grd hb tk I2 (.cons rfl r) q2
theorem grd_neg (h : GRd G X c0 i t1 R fR) : GRd G X c0 i t1 (.UnaryOp .USub R pos) (fun c ρ S => bnd (fR c ρ S) gNeg) := by
  intro Wx tk
  refine pe_imp (pe_un un_neg (h Wx tk)) ?_
  rintro σ H Q ⟨ρ, S, W, a, dx, fv, c, cd, E, RR, hs, ea, lk, hB, h⟩
  refine ⟨ρ, S, W, a, dx, fv, c, cd, E, RR, hs, ea, lk, hB, ?_⟩
  have h' : PostE G X.K Wx σ Q W H (bnd (fR (.obj t1 cd) ρ S) gNeg) := h
  clear h
  revert h'
  generalize fR (.obj t1 cd) ρ S = r
  intro h
  match r, h with
  | none, h => exact h.elim
  | some (.ok d, S'), h => exact fun v H' W' T R' r => ok_neg Wx σ Q W' S' H' d v R' r (pkE.later _ _ _ _ _ _ T R' h)
  | some (.error e, S'), h => exact h
noncomputable section
open Classical in
def xMemo (t1 : Nat) (cu : EV.D → EV.D) (fE : EX) (fR : EV.D → EX) : ES := fun ρ S => match ρ[0]? with
  | some (some (EV.D.obj 0 d)) => match fE ρ S with
    | some (.ok c, S1) => if c = EV.D.obj t1 (cu d) ∧ S1 = S then bndS (fR c ρ S) ρ fun r S2 => some (.rt r S2) else none
    | _ => none
  | _ => none
end
theorem gb_memo {pi pc pa pn pr : Pos} {kk} (M : MemoOk G X.K c0 i t1 cu) (hN : X.N[0]? = some self) (hv : Vis X.env.scope self) (hd : (self == ("__debug__" : Str)) = false) (hcd : (self == ("__classdict__" : Str)) = false)
    (hb0 : attributeBase (.Name self p) fname X.env (eval (.Name self p) X.env) = eval (.Name self p) X.env) (hf : G.fname i = fname) (cl0 : Cls X.K (G.cls c0)) (nA0 : NoAttr X.K (G.cls c0) fname)
    (hE : GE G X E fE) (hR : GRd G X c0 i t1 R fR) (hm : behindInMarks .Is (.Constant .none kk pn) = false := by rfl)
    (hs : swapsWith E (some (.Attribute (.Name self p3) fname pa)) pi.line X.env = pure false := by rfl) :
    GB G X [.If (.Compare (.Attribute (.Name self p) fname p2) [.Is] [.Constant .none kk pn] pc) [.Assign [.Attribute (.Name self p3) fname pa] E pi] [] apos, .Return (some R) pr] (xMemo t1 cu fE fR) := by
  intro Wx tk
  subst hf
  refine pss_imp (pss_cons (ps_if (pt_cmpR op_isN (pe_fld (pe_var hN hv hd hcd) hb0) pe_non hm) (pss_one (ps_fld (pe_var hN hv hd hcd) (hE Wx tk) hs)) pss_nil) (pss_one (ps_ret (hR Wx tk)))) ?_
  rintro Dn σ H ⟨ρ, S, W, E0, R0, h⟩
  unfold xMemo at h
  split at h
  · rename_i d hρ
    split at h
    · rename_i c S1 hfE
      split at h
      · rename_i cc
        obtain ⟨rfl, rfl⟩ := cc
        obtain ⟨v, hσ, rv⟩ := E0.2 0 _ hρ
        cases rv with
        | @obj a _ _ hB =>
          obtain ⟨_, o, ho, hi⟩ := R0.ob a 0 d hB
          obtain ⟨dx, fv, v, rfl, hl, lk, hv', hput⟩ := M.split d a o W hi
          have post : PostE G X.K Wx σ Dn.rt W H (fR (.obj t1 (cu d)) ρ S1) := by
            generalize fR (.obj t1 (cu d)) ρ S1 = z at h ⊢
            match z, h with
            | none, h => exact h
            | some (.ok x, S2), h => exact h
            | some (.error x, S2), h => exact fun cls dx H' W' T R' er => h cls dx σ H' W' T (E0.mono T.le) R' er
          refine ⟨_, hσ, a, _, dx, fv, v, rfl, ho, cl0, nA0, lk, ?_⟩
          refine ⟨rfl, _, rfl, ?_⟩
          rcases hv' with rfl | ⟨c, rfl, hc⟩
          · refine iteT ?_
            refine ⟨ρ, S1, W, E0, R0, ?_⟩
            rw [hfE]
            intro u H1 W1 T1 R1 r1
            cases r1 with
            | @obj c _ _ hc1 =>
              have hB1 := T1.le.b _ _ hB
              obtain ⟨_, o1, ho1, hi1⟩ := R1.ob a 0 d hB1
              obtain ⟨dx1, fv1, v1, rfl, hl1, lk1, _, hput1⟩ := M.split d a o1 W1 hi1
              refine ⟨_, hσ, a, _, dx1, fv1, rfl, ho1, cl0, nA0, hl1, ?_⟩
              obtain ⟨T2, R2⟩ := R1.tag hB1 (hput1 c hc1)
              exact ⟨ρ, S1, W1, a, dx1, _, c, cu d, E0.mono T1.le, R2, hσ, upd_same, by rw [lookup_putF, if_pos rfl], hc1, pkE.later _ _ _ _ _ _ (T1.trans T2) R2 post⟩
          · refine iteF ?_
            exact ⟨ρ, S1, W, a, dx, fv, c, cu d, E0, R0, hσ, ho, lk, hc, post⟩
      · exact h.elim
    · exact h.elim
  · exact h.elim
end
end EV

/-! E12: dicts with whole numbers as keys: read and written. -/
namespace EV
open PySem PySem.Spec PyProof.Rows L2
def putD (ks : List (Key × D)) (k : Key) (d : D) : List (Key × D) := if (findK k ks).isSome = true then ks.map (fun p => if p.1 = k then (p.1, d) else p) else ks ++ [(k, d)]
theorem RepF.mapK {K : PySem.W.Frag} {W : Wd} {k : Key} {d : D} {v : V} (h : Rep K W d v) : ∀ {ks : List (Key × D)} {vs : List (Key × V)}, RepF K W ks vs → RepF K W (ks.map (fun p => if p.1 = k then (p.1, d) else p)) (vs.map (fun p => if p.1 = k then (p.1, v) else p))
  | _, _, .nil => .nil
  | (j, x) :: _, (i, u) :: _, .cons q r => by
    have e : j = i := q.1
    subst e
    rw [List.map_cons, List.map_cons]
    refine .cons ?_ (RepF.mapK h r)
    by_cases z : j = k
    · simp only [z, if_true]
      exact ⟨trivial, h⟩
    · simp only [z, if_false]
      exact ⟨trivial, q.2⟩
theorem RepF.put {K : PySem.W.Frag} {W : Wd} {k : Key} {d : D} {v : V} {ks : List (Key × D)} {vs : List (Key × V)} (r : RepF K W ks vs) (h : Rep K W d v) : RepF K W (putD ks k d) (putK vs k v) := by
  unfold putD
  cases q : findK k ks with
  | none =>
    rw [putK_new v (r.no q)]
    exact r.snoc h
  | some x =>
    obtain ⟨u, q1, _⟩ := r.find q
    have e : (vs.any fun kv => decide (kv.1 = k)) = true := by rw [valV_any, q1]; rfl
    unfold putK
    rw [if_pos e]
    exact r.mapK h
section
variable {G : Sig} {X : Cx} {o i e : Expr} {fo fi fe : EX} {pos pos' : Pos}
/-- d[k] -/
def getKD (o k : D) (S : Sto) : Res D := match dicD S o, k with
  | some ks, .int i => match findK (.inl i) ks with
    | some d => some (.ok d, S)
    | none => none
  | _, _ => none
theorem ge_dget (Cc : Ctx X) (ho : GE G X o fo) (hi : GE G X i fi) (hs : NoSl i) : GE G X (.Subscript o i pos) (xBin getKD fo fi) := by
  intro Wx tk
  refine pe_imp (pe_dget (by have := Cc.un; omega) (ho Wx tk) (hi Wx tk) hs) ?_
  rintro σ H Q ⟨ρ, S, W, E, R, h⟩
  refine tE_of pkE E R h fun d S1 v H1 W1 T1 E1 R1 r1 h1 => tE_of pkE E1 R1 h1 fun k S2 u H2 W2 T2 E2 R2 r2 h2 => ?_
  unfold getKD at h2
  split at h2
  · rename_i ks i' q
    split at h2
    · rename_i x qx
      cases r2
      obtain ⟨n, a, vs, rfl, rfl, _, _, e1, rr⟩ := R2.dic (r1.mono T2.le) q
      obtain ⟨w, w1, w2⟩ := rr.find qx
      exact ⟨a, w, rfl, by rw [← w1]; exact DGet.k (k := .inl i') e1, h2 w H2 W2 (.refl _ _) R2 w2⟩
    · exact h2.elim
  · exact h2.elim
/-- d[k] = v -/
def putKD (o k v : D) (S : Sto) : Res D := match o, k with
  | .cell n, .int i => match S[n]? with
    | some (some (.dK ks)) => if ks.length < cap then some (.ok .non, S.set n (some (.dK (putD ks (.inl i) v)))) else none
    | _ => none
  | _, _ => none
def xDPut (fo fi fe : EX) : ES := fun ρ S => bndS (bnd (fe ρ S) fun v S1 => bnd (fo ρ S1) fun o S2 => bnd (fi ρ S2) fun k S3 => putKD o k v S3) ρ fun _ S4 => some (.nx ρ S4)
theorem gs_dput (Cc : Ctx X) (ho : GE G X o fo) (hi : GE G X i fi) (hv : GE G X e fe) (hs : swapsWith e (some (.Subscript o i pos')) pos.line X.env = pure false := by rfl) : GS G X (.Assign [.Subscript o i pos'] e pos) (xDPut fo fi fe) := by
  intro Wx tk
  refine ps_imp (ps_dput (by have := Cc.un; omega) (ho Wx tk) (hi Wx tk) (hv Wx tk) hs) ?_
  rintro Dn σ H ⟨ρ, S, W, E, R, h⟩
  have h' : PostE G X.K Wx σ (fun _ H' => Dn.nx σ H') W H (bnd (fe ρ S) fun v S1 => bnd (fo ρ S1) fun o S2 => bnd (fi ρ S2) fun k S3 => putKD o k v S3) := by
    unfold xDPut at h
    generalize (bnd (fe ρ S) fun v S1 => bnd (fo ρ S1) fun o S2 => bnd (fi ρ S2) fun k S3 => putKD o k v S3) = z at h ⊢
    match z, h with
    | none, h => exact h
    | some (.ok x, S2), h => exact fun v H' W' T R' _ => h σ H' W' T (E.mono T.le) R'
    | some (.error x, S2), h => exact fun cls dx H' W' T R' er => h cls dx σ H' W' T (E.mono T.le) R' er
  refine tE_of pkE E R h' fun v S1 u H1 W1 T1 E1 R1 r1 h1 => tE_of pkE E1 R1 h1 fun d S2 w H2 W2 T2 E2 R2 r2 h2 => tE_of pkE E2 R2 h2 fun k S3 z H3 W3 T3 E3 R3 r3 h3 => ?_
  unfold putKD at h3
  split at h3
  · rename_i n i'
    split at h3
    · rename_i ks q
      split at h3
      · rename_i hc
        have r2' := r2.mono T3.le
        cases r2' with
        | @cell a _ ha =>
          cases r3
          obtain ⟨a', z1, _, vs, z3, z4⟩ := R3.cl n _ q
          rw [ha] at z1
          cases z1
          obtain ⟨T4, R4⟩ := R3.put q ha (c' := .dK (putD ks (.inl i') v)) (o := .dK (putK vs (.inl i') u)) ⟨_, upd_same, z4.put ((r1.mono T2.le).mono T3.le)⟩
          exact ⟨a, _, rfl, DPut.k (k := .inl i') z3 (Nat.lt_of_lt_of_le (by rw [← z4.len]; exact hc) cap_le), h3 .non _ W3 T4 R4 .non⟩
      · exact h3.elim
    · exact h3.elim
  · exact h3.elim
end
end EV

/-! E13: ranges downwards, insert, extend, membership, chains of three. -/
namespace EV
open PySem PySem.Spec PyProof.Rows L2
def rangeDn (hi : Int) (n : Nat) : List D := (List.range n).map fun i => .int (hi - (i : Nat))
section
variable {G : Sig} {X : Cx} {tg : Expr} {pos p : Pos}
theorem walkRd {K : PySem.W.Frag} {W : Wd} {hi : Int} {n : Nat} : WalkD G K W (Itc hi (-1) n) (rangeDn hi n) (fun _ => True) := by
  have hl : (rangeDn hi n).length = n := by simp [rangeDn]
  refine ⟨fun _ => True, YFn fun i => .int (hi + (i : Nat) * -1), by rw [hl]; exact walk_rangeC, fun _ _ _ _ _ _ => trivial, fun i H2 x H3 W2 S2 le R2 _ hi' y => ?_⟩
  obtain ⟨rfl, rfl⟩ := y
  rw [hl] at hi'
  refine ⟨W2, .int (hi - (i : Nat)), .refl _ _, R2, ?_, ?_⟩
  · unfold rangeDn
    rw [List.getElem?_map, List.getElem?_range hi']
    rfl
  · have e : hi + (i : Nat) * -1 = hi - (i : Nat) := by omega
    show Rep K W2 (.int (hi - (i : Nat))) (.int (hi + (i : Nat) * -1))
    rw [e]
    exact .int _
/-- range(i, j, -1) -/
def xRng3 (fr : EA) : EI := fun ρ S => bnd (fr ρ S) fun ds S1 => match ds with
  | [.int i, .int j, .int (-1)] => if rngOk i j then some (.ok (rangeDn i (i - j).toNat, fun _ => True), S1) else none
  | _ => none
theorem gi_rng3 {a b c : Expr} {fr : EA} (hg : Gl X "range") (hm : X.mg "range" = none) (ha : GA G X [a, b, c] fr) (hs : starEach [a, b, c] X.env = (false, eval a X.env) :: starEach [b, c] X.env := by rfl) (hpl : (backTo pos (starEach [b, c] X.env)).any (·.1) = false := by rfl) : GI G X tg (.Call (.Name "range" p) [a, b, c] [] pos) (xRng3 fr) := by
  intro Wx tk
  refine pi_imp (pi_range3 hg hm (ha Wx tk) (hs := hs) (hpl := hpl)) ?_
  rintro σ H R ⟨ρ, S, W, E, RR, h⟩
  refine tA_of pkI E RR h fun ds S1 vs H1 W1 T1 E1 R1 r1 h1 => ?_
  split at h1
  · rename_i i j
    split at h1
    · rename_i c
      unfold rngOk at c
      simp only [Bool.and_eq_true, decide_eq_true_eq] at c
      cases r1 with
      | cons q1 r1 =>
        cases r1 with
        | cons q2 r1 =>
          cases r1 with
          | cons q3 r1 =>
            cases r1
            cases q1
            cases q2
            cases q3
            exact ⟨i, j, -1, _, rfl, RgC.neg c.1.1.1 c.1.1.2 c.1.2 c.2, h1 _ H1 W1 (.refl _ _) R1 walkRd⟩
    · exact h1.elim
  · exact h1.elim
/-- o.insert(i, x), o a cell -/
def xIns (fo : EX) (fr : EA) : EX := fun ρ S => bnd (fo ρ S) fun d S1 => match d with
  | .cell n => match S1[n]? with
    | some (some (.lst _)) => bnd (fr ρ S1) fun ds S2 => match ds, S2[n]? with
      | [.int i, y], some (some (.lst xs)) => if xs.length < cap ∧ 0 ≤ i ∧ i < 2 ^ 63 then some (.ok .non, S2.set n (some (.lst (xs.take i.toNat ++ [y] ++ xs.drop i.toNat)))) else none
      | _, _ => none
    | _ => none
  | _ => none
theorem ge_ins {o e1 e2 : Expr} {apos : Pos} {fo : EX} {fr : EA} (ho : GE G X o fo) (ha : GA G X [e1, e2] fr)
    (hbase : attributeBase o "insert" X.env (eval o X.env) = eval o X.env := by rfl)
    (hfew : ((backTo pos (starEach [e1, e2] X.env)).all (fun x => !x.1) && (backToKw pos (keywordEach [] X.env)).all (fun x => x.1.isSome)
      && decide ([e1, e2].length + ([] : List Keyword).length + (if ([] : List Keyword).isEmpty then 0 else 1) < 30)) = true := by rfl)
    (hline : (apos.endLine == pos.line) = true := by rfl) (hs : starEach [e1, e2] X.env = (false, eval e1 X.env) :: starEach [e2] X.env := by rfl) (hplain : (backTo pos (starEach [e2] X.env)).any (·.1) = false := by rfl) :
    GE G X (.Call (.Attribute o "insert" apos) [e1, e2] [] pos) (xIns fo fr) := by
  intro Wx tk
  refine pe_imp (pe_bm PySem.F.plainAttrs_list PySem.F.slot_list_insert PySem.F.type_list_insert mt_insert (ho Wx tk) (ha Wx tk) hbase hfew hline hs hplain) ?_
  rintro σ H Q ⟨ρ, S, W, E, R, h⟩
  refine tE_of pkE E R h fun d S1 v H1 W1 T1 E1 R1 r1 h1 => ?_
  split at h1
  · rename_i n
    split at h1
    · rename_i xs0 q0
      cases r1 with
      | cell hn =>
        rename_i a
        obtain ⟨a', z1, _, vs0, z3, z4⟩ := R1.cl n _ q0
        rw [hn] at z1
        cases z1
        refine ⟨.inl ⟨rfl, vs0, .of z3⟩, ?_⟩
        refine tA_of pkE E1 R1 h1 fun ds S2 us H2 W2 T2 E2 R2 r2 h2 => ?_
        split at h2
        · rename_i i y xs q1
          split at h2
          · rename_i hc
            obtain ⟨a', z1, _, vs, z3, z4⟩ := R2.cl n _ q1
            rw [T2.le.at hn] at z1
            cases z1
            have hl := z4.length
            cases r2 with
            | cons p1 r2 =>
              cases r2 with
              | cons p2 r2 =>
                cases r2
                cases p1
                rename_i u
                refine ⟨a, vs, i, u, rfl, rfl, z3, Nat.lt_of_lt_of_le (by omega) cap_le, hc.2.1, hc.2.2, ?_⟩
                obtain ⟨T3, R3⟩ := R2.put q1 (T2.le.at hn) (c' := .lst (xs.take i.toNat ++ [y] ++ xs.drop i.toNat)) (o := .lst (vs.take i.toNat ++ [u] ++ vs.drop i.toNat)) ⟨_, upd_same, ((z4.take i.toNat).append (.cons p2 .nil)).append (z4.drop i.toNat)⟩
                exact h2 _ _ W2 T3 R3 .non
          · exact h2.elim
        · exact h2.elim
    · exact h1.elim
  · exact h1.elim
/-- o.extend(xs), o a cell -/
def xExt (fo fe : EX) : EX := fun ρ S => bnd (fo ρ S) fun d S1 => match d with
  | .cell n => match S1[n]? with
    | some (some (.lst _)) => bnd (fe ρ S1) fun y S2 => match lstD S2 y, S2[n]? with
      | some ys, some (some (.lst xs)) => if xs.length + ys.length ≤ cap then some (.ok .non, S2.set n (some (.lst (xs ++ ys)))) else none
      | _, _ => none
    | _ => none
  | _ => none
theorem ge_ext {o e : Expr} {apos : Pos} {fo fe : EX} (ho : GE G X o fo) (he : GE G X e fe)
    (hbase : attributeBase o "extend" X.env (eval o X.env) = eval o X.env := by rfl)
    (hfew : ((backTo pos (starEach [e] X.env)).all (fun x => !x.1) && (backToKw pos (keywordEach [] X.env)).all (fun x => x.1.isSome)
      && decide ([e].length + ([] : List Keyword).length + (if ([] : List Keyword).isEmpty then 0 else 1) < 30)) = true := by rfl)
    (hline : (apos.endLine == pos.line) = true := by rfl) (hs : starEach [e] X.env = (false, eval e X.env) :: starEach [] X.env := by rfl) (hplain : (backTo pos (starEach [] X.env)).any (·.1) = false := by rfl) :
    GE G X (.Call (.Attribute o "extend" apos) [e] [] pos) (xExt fo fe) := by
  intro Wx tk
  refine pe_imp (pe_bm PySem.F.plainAttrs_list PySem.F.slot_list_extend PySem.F.type_list_extend mt_extend (ho Wx tk) (pa_cons (he Wx tk) pa_nil hs) hbase hfew hline hs hplain) ?_
  rintro σ H Q ⟨ρ, S, W, E, R, h⟩
  refine tE_of pkE E R h fun d S1 v H1 W1 T1 E1 R1 r1 h1 => ?_
  split at h1
  · rename_i n
    split at h1
    · rename_i xs0 q0
      cases r1 with
      | cell hn =>
        rename_i a
        obtain ⟨a', z1, _, vs0, z3, z4⟩ := R1.cl n _ q0
        rw [hn] at z1
        cases z1
        refine ⟨.inl ⟨rfl, vs0, .of z3⟩, ?_⟩
        refine tE_of pkE E1 R1 h1 fun y S2 u H2 W2 T2 E2 R2 r2 h2 => ?_
        split at h2
        · rename_i ys xs q2 q1
          split at h2
          · rename_i hc
            obtain ⟨a', z1, _, vs, z3, z4⟩ := R2.cl n _ q1
            rw [T2.le.at hn] at z1
            cases z1
            obtain ⟨b, us, rfl, hb, rb⟩ := R2.lst r2 q2
            have hl := z4.length
            have hl2 := rb.length
            refine ⟨a, b, vs, us, rfl, rfl, z3, hb, Nat.le_trans (by omega) cap_le, ?_⟩
            obtain ⟨T3, R3⟩ := R2.put q1 (T2.le.at hn) (c' := .lst (xs ++ ys)) (o := .lst (vs ++ us)) ⟨_, upd_same, z4.append rb⟩
            exact h2 _ _ W2 T3 R3 .non
          · exact h2.elim
        · exact h2.elim
    · exact h1.elim
  · exact h1.elim
/-- i in a list of whole numbers -/
def gInI (neg : Bool) : D → D → Sto → Res Bool := fun x y S => match x, intsD S y with
  | .int i, some is => some (.ok (xor neg (decide (i ∈ is))), S)
  | _, _ => none
theorem inV_ints (i : Int) : ∀ is : List Int, inV (.int i) (is.map V.int) = decide (i ∈ is)
  | [] => rfl
  | j :: is => by
    have ih := inV_ints i is
    unfold inV at ih ⊢
    rw [List.map_cons, List.any_cons, ih]
    by_cases z : j = i
    · subst z
      simp [eqV]
    · have : eqV (.int j) (.int i) = false := by simp [eqV, z]
      rw [this]
      simp [Ne.symm z]
theorem ok_inI {neg : Bool} : OpOkB G X (rIn X.K neg) (gInI neg) := by
  intro Wx σ Q W S H x y u v R rx ry h
  unfold gInI at h
  split at h
  · rename_i i is e
    cases rx
    unfold intsD at e
    cases q : lstD S y with
    | none => rw [q] at e; cases e
    | some xs =>
      rw [q] at e
      have e' : toInts xs = some is := e
      have ex := toInts_eq e'
      obtain ⟨b, us, rfl, hb, rb⟩ := R.lst ry q
      rw [ex] at rb
      have eu := Reps.of_ints rb
      subst eu
      refine ⟨b, is.map V.int, rfl, .inl (.of hb), rfl, ?_, ?_⟩
      · rw [List.all_map]
        exact List.all_eq_true.mpr fun j _ => rfl
      · rw [inV_ints]
        have := h H W (.refl _ _) R
        cases neg <;> simpa using this
  · exact h.elim
end
theorem reps3 {K : PySem.W.Frag} {W : Wd} {d e f : D} {vs : List V} (r : Reps K W [d, e, f] vs) : ∃ v u w, vs = [v, u, w] ∧ Rep K W d v ∧ Rep K W e u ∧ Rep K W f w := by
  cases r with
  | cons h1 r =>
    cases r with
    | cons h2 r =>
      cases r with
      | cons h3 r =>
        cases r
        exact ⟨_, _, _, rfl, h1, h2, h3⟩
/-- a, b, c = .. -/
def xPar3 (i j l : Nat) (fr : EA) : ES := fun ρ S => bndS (fr ρ S) ρ fun ds S1 => match ds with
  | [a, b, c] => some (.nx (((ρ.set i (some a)).set j (some b)).set l (some c)) S1)
  | _ => none
theorem gs_par3 {G : Sig} {X : Cx} {i j l : Nat} {x y z : Str} {a b c : Expr} {fr : EA} {px py pz pt pos : Pos} {kt k2 pt2} (C : Ctx X) (hi : X.N[i]? = some x) (hj : X.N[j]? = some y) (hl : X.N[l]? = some z) (hij : i ≠ j) (hil : i ≠ l) (hjl : j ≠ l)
    (hx : X.env.scope.names.lookup x = some .local) (hy : X.env.scope.names.lookup y = some .local) (hz : X.env.scope.names.lookup z = some .local) (ha : GA G X [a, b, c] fr)
    (hw : swappedStores [.Tuple [.Name x px, .Name y py, .Name z pz] kt pt] (.Tuple [a, b, c] k2 pt2) X.env = pure (some [x, y, z]))
    (hs : swapsWithSole [.Tuple [.Name x px, .Name y py, .Name z pz] kt pt] (.Tuple [a, b, c] k2 pt2) pos.line X.env = pure false := by rfl) :
    GS G X (.Assign [.Tuple [.Name x px, .Name y py, .Name z pz] kt pt] (.Tuple [a, b, c] k2 pt2) pos) (xPar3 i j l fr) := by
  intro Wx tk
  refine ps_imp (ps_par3 C.calm C.nd hi hj hl hij hil hjl hx hy hz (ha Wx tk) hw hs) ?_
  rintro D σ H ⟨ρ, S, W, E, R, h⟩
  refine tA_ofS E R h fun ds S1 vs H1 W1 T1 E1 R1 r1 h1 => ?_
  match ds, r1, h1 with
  | [], _, h1 => exact h1.elim
  | [_], _, h1 => exact h1.elim
  | [_, _], _, h1 => exact h1.elim
  | [d1, d2, d3], r1, h1 =>
    obtain ⟨v, u, w, rfl, q1, q2, q3⟩ := reps3 r1
    exact ⟨v, u, w, rfl, h1 _ H1 W1 (.refl _ _) (((E1.set q1 i).set q2 j).set q3 l) R1⟩
  | _ :: _ :: _ :: _ :: _, _, h1 => exact h1.elim
/-! ### chains of three -/
section
variable {G : Sig} {X : Cx} {a b c d : Expr} {fa fb fc fd : EX} {ta tb tc td : TE} {pos : Pos}
def tChain3 (r r' r'' : R2) (ta tb tc td : TE) : TE := fun σ H Q => ta σ H fun x H1 => tb σ H1 fun y H2 => r x y H2 fun z H3 => ∃ k, z = .bl k ∧
  (if k = true then tc σ H3 fun w H4 => r' y w H4 fun z2 H5 => ∃ k2, z2 = .bl k2 ∧ (if k2 = true then td σ H5 fun v H6 => r'' w v H6 Q else Q (.bl false) H5) else Q (.bl false) H3)
theorem pe_chain3 {op op' op'' : CmpOp} {r r' r'' : R2} (ho : OpR X (compareOp op) r) (ho' : OpR X (compareOp op') r') (ho'' : OpR X (compareOp op'') r'') (ha : PE X a ta) (hb : PE X b tb) (hc : PE X c tc) (hd : PE X d td)
    (hm : lastMarks [op, op', op''] [b, c, d] = false := by with_unfolding_all rfl) : PE X (.Compare a [op, op', op''] [b, c, d] pos) (tChain3 r r' r'' ta tb tc td) := by
  refine ⟨fun pins s σ H Q I h => ?_⟩
  refine Compare_chain (thn (ha.run pins s σ H _ I h) fun v s1 ⟨x, H1, I1, r1, q1⟩ => chain_link (thn (hb.run pins s1 σ H1 _ I1 q1) fun u s2 ⟨y, H2, I2, r2, q2⟩ =>
    thn (ho pins s2 σ H2 x y v u _ I2 r1 r2 q2) fun d s3 ⟨z, H3, I3, r3, k, e, q3⟩ => ?_)) hm
  subst e
  cases r3
  refine wpAny_truthy_bool ?_
  cases k with
  | false => exact ite_ff ⟨.bl false, H3, I3, rfl, q3⟩
  | true =>
    refine ite_tt (chain_link (thn (hc.run pins s3 σ H3 _ I3 q3) fun w' s4 ⟨z', H4, I4, r4, q4⟩ => thn (ho' pins s4 σ H4 y z' u w' _ I4 r2 r4 q4) fun d' s5 ⟨z2, H5, I5, r5, k2, e2, q5⟩ => ?_))
    subst e2
    cases r5
    refine wpAny_truthy_bool ?_
    cases k2 with
    | false => exact ite_ff ⟨.bl false, H5, I5, rfl, q5⟩
    | true => exact ite_tt (chain_last (thn (hd.run pins s5 σ H5 _ I5 q5) fun w2 s6 ⟨z6, H6, I6, r6, q6⟩ => ho'' pins s6 σ H6 z' z6 w' w2 Q I6 r4 r6 q6))
theorem pt_chain3 {op op' op'' : CmpOp} {r r' r'' : R2} (ho : OpR X (compareOp op) r) (ho' : OpR X (compareOp op') r') (ho'' : OpR X (compareOp op'') r'') (ha : PE X a ta) (hb : PE X b tb) (hc : PE X c tc) (hd : PE X d td)
    (hm : lastMarks [op, op', op''] [b, c, d] = false := by with_unfolding_all rfl) : PT X (.Compare a [op, op', op''] [b, c, d] pos) (tTest (tChain3 r r' r'' ta tb tc td)) := by
  refine ⟨fun pins s σ H Q I h => ?_⟩
  refine isTrue_chain (thn (ha.run pins s σ H _ I h) fun v s1 ⟨x, H1, I1, r1, q1⟩ => test_link (thn (hb.run pins s1 σ H1 _ I1 q1) fun u s2 ⟨y, H2, I2, r2, q2⟩ =>
    thn (ho pins s2 σ H2 x y v u _ I2 r1 r2 q2) fun d s3 ⟨z, H3, I3, r3, k, e, q3⟩ => ?_)) hm
  subst e
  cases r3
  refine wpAny_truthy_bool ?_
  cases k with
  | false =>
    obtain ⟨k', e', q'⟩ := q3
    cases e'
    exact ite_ff ⟨H3, I3, q'⟩
  | true =>
    refine ite_tt (test_link (thn (hc.run pins s3 σ H3 _ I3 q3) fun w' s4 ⟨z', H4, I4, r4, q4⟩ => thn (ho' pins s4 σ H4 y z' u w' _ I4 r2 r4 q4) fun d' s5 ⟨z2, H5, I5, r5, k2, e2, q5⟩ => ?_))
    subst e2
    cases r5
    refine wpAny_truthy_bool ?_
    cases k2 with
    | false =>
      obtain ⟨k', e', q'⟩ := q5
      cases e'
      exact ite_ff ⟨H5, I5, q'⟩
    | true =>
      refine ite_tt (test_last (thn (hd.run pins s5 σ H5 _ I5 q5) fun w2 s6 ⟨z6, H6, I6, r6, q6⟩ => thn (ho'' pins s6 σ H6 z' z6 w' w2 _ I6 r4 r6 q6) fun d2 s7 ⟨z7, H7, I7, r7, k7, e7, q7⟩ => ?_))
      subst e7
      cases r7
      exact wpAny_truthy_bool ⟨H7, I7, q7⟩
/-- a op b op' c op'' d -/
def xChain3 (g g' g'' : D → D → Sto → Res Bool) (a b c d : EX) : ET := fun ρ S => bnd (a ρ S) fun x S1 => bnd (b ρ S1) fun y S2 => bnd (g x y S2) fun k S3 => if k then bnd (c ρ S3) fun z S4 => bnd (g' y z S4) fun k2 S5 => if k2 then bnd (d ρ S5) fun w S6 => g'' z w S6 else some (.ok false, S5) else some (.ok false, S3)
theorem tChain3_of {r r' r'' : R2} {g g' g'' : D → D → Sto → Res Bool} (hg : OpOkB G X r g) (hg' : OpOkB G X r' g') (hg'' : OpOkB G X r'' g'') {Wx : WX} {σ : L2.St} {Q : VK} {W : Wd} {S : Sto} {H : Hp} {ρ : Frm} (E : RE X.K W ρ σ) (R : RS G X.K W S H)
    (h : PostT G X.K Wx σ (fun b H' => Q (.bl b) H') W H (xChain3 g g' g'' fa fb fc fd ρ S)) : tChain3 r r' r'' (tE G X.K Wx fa) (tE G X.K Wx fb) (tE G X.K Wx fc) (tE G X.K Wx fd) σ H Q := by
  refine tE_of pkT E R h fun x S1 u H1 W1 T1 E1 R1 r1 h1 => tE_of pkT E1 R1 h1 fun y S2 v H2 W2 T2 E2 R2 r2 h2 => ?_
  refine hg Wx σ _ W2 S2 H2 x y u v R2 (r1.mono T2.le) r2 ?_
  generalize g x y S2 = z at h2 ⊢
  match z, h2 with
  | none, h2 => exact h2.elim
  | some (.error e, S3), h2 => exact h2
  | some (.ok true, S3), h2 =>
    intro H3 W3 T3 R3
    refine ⟨true, rfl, iteT (tE_of pkT (E2.mono T3.le) R3 (pkT.later _ _ _ _ _ _ T3 R3 h2) fun w S4 wv H4 W4 T4 E4 R4 r4 h4 => ?_)⟩
    refine hg' Wx σ _ W4 S4 H4 y w v wv R4 ((r2.mono T3.le).mono T4.le) r4 ?_
    generalize g' y w S4 = z2 at h4 ⊢
    match z2, h4 with
    | none, h4 => exact h4.elim
    | some (.error e, S5), h4 => exact h4
    | some (.ok true, S5), h4 =>
      intro H5 W5 T5 R5
      refine ⟨true, rfl, iteT (tE_of pkT (E4.mono T5.le) R5 (pkT.later _ _ _ _ _ _ T5 R5 h4) fun q S6 qv H6 W6 T6 E6 R6 r6 h6 => ?_)⟩
      exact hg'' Wx σ Q W6 S6 H6 w q wv qv R6 ((r4.mono T5.le).mono T6.le) r6 h6
    | some (.ok false, S5), h4 =>
      intro H5 W5 T5 R5
      exact ⟨false, rfl, iteF (h4 H5 W5 T5 R5)⟩
  | some (.ok false, S3), h2 =>
    intro H3 W3 T3 R3
    exact ⟨false, rfl, iteF (h2 H3 W3 T3 R3)⟩
theorem ge_chain3 {op op' op'' : CmpOp} {r r' r'' : R2} {g g' g'' : D → D → Sto → Res Bool} (ho : OpR X (compareOp op) r) (hg : OpOkB G X r g) (ho' : OpR X (compareOp op') r') (hg' : OpOkB G X r' g') (ho'' : OpR X (compareOp op'') r'') (hg'' : OpOkB G X r'' g'') (ha : GE G X a fa) (hb : GE G X b fb) (hc : GE G X c fc) (hd : GE G X d fd)
    (hm : lastMarks [op, op', op''] [b, c, d] = false := by with_unfolding_all rfl) : GE G X (.Compare a [op, op', op''] [b, c, d] pos) (xBl (xChain3 g g' g'' fa fb fc fd)) := by
  intro Wx tk
  refine pe_imp (pe_chain3 ho ho' ho'' (ha Wx tk) (hb Wx tk) (hc Wx tk) (hd Wx tk) hm) ?_
  rintro σ H Q ⟨ρ, S, W, E, R, h⟩
  exact tChain3_of hg hg' hg'' E R (xBl_post h)
theorem gt_chain3 {op op' op'' : CmpOp} {r r' r'' : R2} {g g' g'' : D → D → Sto → Res Bool} (ho : OpR X (compareOp op) r) (hg : OpOkB G X r g) (ho' : OpR X (compareOp op') r') (hg' : OpOkB G X r' g') (ho'' : OpR X (compareOp op'') r'') (hg'' : OpOkB G X r'' g'') (ha : GE G X a fa) (hb : GE G X b fb) (hc : GE G X c fc) (hd : GE G X d fd)
    (hm : lastMarks [op, op', op''] [b, c, d] = false := by with_unfolding_all rfl) : GT G X (.Compare a [op, op', op''] [b, c, d] pos) (xChain3 g g' g'' fa fb fc fd) := by
  intro Wx tk
  refine pt_imp (pt_chain3 ho ho' ho'' (ha Wx tk) (hb Wx tk) (hc Wx tk) (hd Wx tk) hm) ?_
  rintro σ H Q ⟨ρ, S, W, E, R, h⟩
  refine tChain3_of (Q := fun x H' => ∃ k, x = .bl k ∧ Q k H') hg hg' hg'' E R ?_
  generalize xChain3 g g' g'' fa fb fc fd ρ S = z at h ⊢
  match z, h with
  | none, h => exact h.elim
  | some (.ok k, S1), h => exact fun H' W' T R' => ⟨k, rfl, h H' W' T R'⟩
  | some (.error e, S1), h => exact h
end
end EV

/-! E14: membership of data in lists of data. -/
namespace EV
open PySem PySem.Spec PyProof.Rows L2
/-- x in xs, both data -/
def gInD (neg : Bool) : D → D → Sto → Res Bool := fun x y S => match toPc S x, toPc S y with
  | some p, some (.list ds) => if SeqAt.shaped p && SeqAt.shaped (.list ds) then some (.ok (xor neg (ds.any fun z => PyData.eqv z p)), S) else none
  | _, _ => none
theorem Ctx.inU {X : Cx} (C : Ctx X) : X.A.units + 65 < cLine := by have := C.un; omega
section
variable {G : Sig} {X : Cx}
theorem ok_inD : OpOkB G X (rInD X.K) (gInD false) := by
  intro Wx σ Q W S H x y u v R rx ry h
  unfold gInD at h
  split at h
  · rename_i p ds e1 e2
    split at h
    · rename_i c
      rw [Bool.and_eq_true] at c
      refine ⟨p, ds, R.dpc rx e1, R.dpc ry e2, c.1, c.2, ?_⟩
      have := h H W (.refl _ _) R
      rwa [Bool.false_xor] at this
    · exact h.elim
  · exact h.elim
theorem ok_notInD : OpOkB G X (rNotInD X.K) (gInD true) := by
  intro Wx σ Q W S H x y u v R rx ry h
  unfold gInD at h
  split at h
  · rename_i p ds e1 e2
    split at h
    · rename_i c
      rw [Bool.and_eq_true] at c
      refine ⟨p, ds, R.dpc rx e1, R.dpc ry e2, c.1, c.2, ?_⟩
      have := h H W (.refl _ _) R
      rwa [Bool.true_xor] at this
    · exact h.elim
  · exact h.elim
/-! ### is True, is False -/
def gIsB (neg : Bool) : D → D → Sto → Res Bool
  | .bl a, .bl b, S => some (.ok (xor neg (decide (a = b))), S)
  | _, _, _ => none
def rIsB (neg : Bool) : R2 := fun x y H Q => ∃ a b, x = .bl a ∧ y = .bl b ∧ Q (.bl (xor neg (decide (a = b)))) H
theorem op_isB : OpR X (compareOp .Is) (rIsB false) := by
  intro pins s σ H x y v u Q I rx ry h
  obtain ⟨a, b, rfl, rfl, q⟩ := h
  cases (show v = Value.bool a from rx)
  cases (show u = Value.bool b from ry)
  exact wpAny_is_plain rfl (fin_bl I q (by cases a <;> cases b <;> rfl))
theorem op_notB : OpR X (compareOp .IsNot) (rIsB true) := by
  intro pins s σ H x y v u Q I rx ry h
  obtain ⟨a, b, rfl, rfl, q⟩ := h
  cases (show v = Value.bool a from rx)
  cases (show u = Value.bool b from ry)
  exact wpAny_isNot_plain rfl (fin_bl I q (by cases a <;> cases b <;> rfl))
theorem ok_isB {neg : Bool} : OpOkB G X (rIsB neg) (gIsB neg) := by
  intro Wx σ Q W S H x y u v R rx ry h
  unfold gIsB at h
  split at h
  · cases rx
    cases ry
    exact ⟨_, _, rfl, rfl, h H W (.refl _ _) R⟩
  · exact h.elim
end
end EV

/-! E15: the values of a dict by its keys, gone through; d.get; keys of any kind. -/
namespace EV
open PySem PySem.Spec PyProof.Rows L2
def keyD : D → Option Key
  | .int i => some (.inl i)
  | .str s => some (.inr s)
  | _ => none
theorem rep_key {K : PySem.W.Frag} {W : Wd} {d : D} {v : V} {k : Key} (r : Rep K W d v) (h : keyD d = some k) : v = kV k := by
  cases r <;> first | (cases h; rfl) | cases h
theorem vals_at {K : PySem.W.Frag} {W : Wd} : ∀ {ks : List (Key × D)} {vs : List (Key × V)}, RepF K W ks vs → vs.map Prod.fst = ks.map Prod.fst ∧ Reps K W (ks.map Prod.snd) (vs.map Prod.snd)
  | _, _, .nil => ⟨rfl, .nil⟩
  | _, _, .cons h r => by
    obtain ⟨a, b⟩ := vals_at r
    exact ⟨by rw [List.map_cons, List.map_cons, a, h.1], .cons h.2 b⟩
theorem val_nodup {vs : List (Key × V)} (hn : (vs.map Prod.fst).Nodup) {i : Nat} {k : Key} {v : V} (h : vs[i]? = some (k, v)) : valV vs k = some v := by
  induction vs generalizing i with
  | nil => cases h
  | cons p r ih =>
    rw [List.map_cons, List.nodup_cons] at hn
    cases i with
    | zero =>
      cases h
      exact valV_pos rfl
    | succ i =>
      have h' : r[i]? = some (k, v) := h
      have m : k ∈ r.map Prod.fst := List.mem_map.mpr ⟨_, List.mem_of_getElem? h', rfl⟩
      rw [valV_neg fun z => hn.1 (z ▸ m)]
      exact ih hn.2 h'
section
variable {G : Sig} {X : Cx} {pos p1 p2 p3 p4 p5 : Pos}
/-- [d[k] for k in d] -/
def xDVals (i j : Nat) : EA := fun ρ S => match ρ[i]? with
  | some (some (.cell n)) => match S[n]? with
    | some (some (.dK ks)) => if j < ρ.length ∧ ks.length < cap ∧ (ks.map Prod.fst).Nodup then some (.ok (ks.map Prod.snd), S) else none
    | _ => none
  | _ => none
theorem dv_imp {Wx : WX} {i j : Nat} (hij : i ≠ j) (σ : L2.St) (H : Hp) (Q : VK) (hh : tF G X.K Wx (xDVals i j) σ H Q) :
    ∃ d u, H d = some u ∧ Mut (some u) ∧ ∀ od, tLc (iKeys (tVar i)) (L2.gName j) tYes (tDGet (tVar i) (tVar j)) [j] σ (upd H d (.frz od u)) fun v H' => H' d = some (.frz od u) ∧ Q v (upd H' d u) := by
  obtain ⟨ρ, S, W, E, R, h⟩ := hh
  unfold xDVals at h
  split at h
  · rename_i n e1
    split at h
    · rename_i ks e2
      split at h
      · rename_i hc
        obtain ⟨v, q1, q2⟩ := E.2 i _ e1
        cases q2 with
        | @cell a _ ha =>
          obtain ⟨a', z1, zW, vs, z3, z4⟩ := R.cl n _ e2
          rw [ha] at z1
          cases z1
          refine ⟨a, .dK vs, z3, trivial, fun od => ?_⟩
          refine ⟨_, q1, a, od, rfl, .inl ⟨vs, upd_same, fun D hD => ?_⟩⟩
          have hDa : D ≠ a := fun z => by rw [z, upd_same] at hD; cases hD
          have hDH : H D = none := by rwa [upd_ne hDa] at hD
          have hl : vs.length = ks.length := z4.len.symm
          obtain ⟨m1, m2⟩ := vals_at z4
          refine lc_it walk_keys (fun i H' => H' = upd (upd H a (.frz od (.dK vs))) D (.lst ((vs.map Prod.snd).take i))) (by simp) ?_ ?_ ?_
          · rintro m H' hm rfl
            rw [upd_ne hDa.symm, upd_same]
          · rintro m x H' H2 hm rfl ⟨rfl, k, v, hkv, rfl⟩
            have sl : σ.length = ρ.length := E.1.symm
            have jl : j < σ.length := by rw [sl]; exact hc.1
            have em : (vs.map Prod.snd)[m]? = some v := by rw [List.getElem?_map, hkv]; rfl
            have nd : (vs.map Prod.fst).Nodup := by rw [m1]; exact hc.2.2
            refine ⟨by simp [wipe], ?_⟩
            show tDGet (tVar i) (tVar j) ((wipe σ [j]).set j (some (kV k))) _ _
            refine ⟨.ref a, ?_, kV k, ?_, a, v, rfl, .inl ⟨vs, k, .inr ⟨od, by rw [upd_ne hDa.symm, upd_same]⟩, rfl, (val_nodup nd hkv).symm⟩, _, upd_same, ?_, ?_⟩
            · rw [List.getElem?_set_ne (Ne.symm hij)]
              show (σ.set j none)[i]? = _
              rw [List.getElem?_set_ne (Ne.symm hij)]
              exact q1
            · exact List.getElem?_set_self (by show j < (σ.set j none).length; rw [List.length_set]; exact jl)
            · rw [List.length_take, List.length_map]
              exact Nat.lt_of_lt_of_le (by omega) cap_le
            · rw [L2.upd_upd, List.take_add_one, em]
              rfl
          · rintro H' rfl
            refine ⟨by rw [upd_ne hDa.symm, upd_same], ?_⟩
            obtain ⟨T2, R2, L2'⟩ := R.new hDH (.lst (vs.map Prod.snd))
            have eH : upd (upd (upd H a (.frz od (.dK vs))) D (.lst ((vs.map Prod.snd).take vs.length))) a (.dK vs) = upd H D (.lst (vs.map Prod.snd)) := by
              rw [List.take_of_length_le (by rw [List.length_map]; exact Nat.le_refl _)]
              funext b
              by_cases ba : b = a
              · rw [ba, upd_same, upd_ne hDa.symm, z3]
              · rw [upd_ne ba]
                by_cases bD : b = D
                · rw [bD, upd_same, upd_same]
                · rw [upd_ne bD, upd_ne bD, upd_ne ba]
            rw [eH]
            exact h D _ _ W T2 R2 hDH L2' upd_same m2
      · exact h.elim
    · exact h.elim
  · exact h.elim
theorem gf_dvals {i j : Nat} {near key : Str} {scope : Scope} (Cc : Ctx X) (hi : X.N[i]? = some near) (hv : Vis X.env.scope near) (hj : X.N[j]? = some key) (hij : i ≠ j) (ok : BlkOk X.N X.env.scope scope [(key, j)])
    (hg : ∀ (s : Shared) (H : Hp) (C : Addr) (cl : List (Str × Addr)) (fp : List Addr), PG (X.blk s H scope (compEnvC scope cl C X.env) fp) (.Name key p4) (L2.gName j))
    (h1 : ∀ (s : Shared) (H : Hp) (C : Addr) (cl : List (Str × Addr)) (fp : List Addr), PE (X.blk s H scope (compEnvC scope cl C X.env) fp) (.Name near p1) (L2.tVar i))
    (h2 : ∀ (s : Shared) (H : Hp) (C : Addr) (cl : List (Str × Addr)) (fp : List Addr), PE (X.blk s H scope (compEnvC scope cl C X.env) fp) (.Name key p2) (L2.tVar j))
    (h0 : PE X (.Name near p5) (L2.tVar i)) (hs : ∀ x, foldedSetIterable (.Name near p5) X.env x = pure x := by intro _; rfl) :
    GF G X (.ListComp (.Subscript (.Name near p1) (.Name key p2) p3) [⟨.Name key p4, .Name near p5, [], 0⟩] scope pos) (xDVals i j) := by
  intro Wx tk
  exact pe_imp (pe_lock (pe_lc Cc.calm Cc.nd (pi_keys h0) ok hg (fun s H C cl fp => pts_nil) (fun s H C cl fp => pe_dget (by have := Cc.un; show X.A.units + 1 < cLine; omega) (h1 s H C cl fp) (h2 s H C cl fp) (fun _ _ => rfl)) hs)) (dv_imp hij)
theorem gs_setDv {l i j : Nat} {y near key : Str} {py spos : Pos} {scope : Scope} (Cc : Ctx X) (hy : X.N[l]? = some y) (hyl : X.env.scope.names.lookup y = some .local)
    (hsw : swapsWith (.ListComp (.Subscript (.Name near p1) (.Name key p2) p3) [⟨.Name key p4, .Name near p5, [], 0⟩] scope pos) (some (.Name y py)) spos.line X.env = pure true) (hi : X.N[i]? = some near) (hv : Vis X.env.scope near) (hj : X.N[j]? = some key) (hij : i ≠ j) (ok : BlkOk X.N X.env.scope scope [(key, j)])
    (hg : ∀ (s : Shared) (H : Hp) (C : Addr) (cl : List (Str × Addr)) (fp : List Addr), PG (X.blk s H scope (compEnvC scope cl C X.env) fp) (.Name key p4) (L2.gName j))
    (h1 : ∀ (s : Shared) (H : Hp) (C : Addr) (cl : List (Str × Addr)) (fp : List Addr), PE (X.blk s H scope (compEnvC scope cl C X.env) fp) (.Name near p1) (L2.tVar i))
    (h2 : ∀ (s : Shared) (H : Hp) (C : Addr) (cl : List (Str × Addr)) (fp : List Addr), PE (X.blk s H scope (compEnvC scope cl C X.env) fp) (.Name key p2) (L2.tVar j))
    (h0 : PE X (.Name near p5) (L2.tVar i)) (hs : ∀ x, foldedSetIterable (.Name near p5) X.env x = pure x := by intro _; rfl) :
    GS G X (.Assign [.Name y py] (.ListComp (.Subscript (.Name near p1) (.Name key p2) p3) [⟨.Name key p4, .Name near p5, [], 0⟩] scope pos) spos) (xSet l (xFrz (xDVals i j))) := by
  intro Wx tk
  refine ps_imp (ps_lock (ps_setLc Cc.calm Cc.nd hy hyl hsw (pi_keys h0) ok hg (fun s H C cl fp => pts_nil) (fun s H C cl fp => pe_dget (by have := Cc.un; show X.A.units + 1 < cLine; omega) (h1 s H C cl fp) (h2 s H C cl fp) (fun _ _ => rfl)) hs)) ?_
  rintro D σ H ⟨ρ, S, W, E, R, h⟩
  refine dv_imp (Wx := Wx) hij σ H (fun x H' => D.nx (σ.set l (some x)) H') ⟨ρ, S, W, E, R, ?_⟩
  unfold xSet xFrz at h
  generalize xDVals i j ρ S = r at h ⊢
  match r, h with
  | none, h => exact h.elim
  | some (.error e, S1), h => exact fun cls dx H' W' T R' er => h cls dx σ H' W' T (E.mono T.le) R' er
  | some (.ok ds, S1), h =>
    intro p vs H1 W1 T1 R1 h0 L e r
    obtain ⟨W3, le3, T3, R3, e3⟩ := R1.frz T1 h0 L e
    exact h _ _ W3 T3 ((E.mono T3.le).set (.lst e3 (r.mono le3)) l) R3
variable {o i f e : Expr} {fo fi fe ff : EX} {apos cpos pos' : Pos}
/-- d[k], k a number or a text -/
def getKE (o k : D) (S : Sto) : Res D := match dicD S o, keyD k with
  | some ks, some kk => match findK kk ks with
    | some d => some (.ok d, S)
    | none => none
  | _, _ => none
theorem ge_dgetE (Cc : Ctx X) (ho : GE G X o fo) (hi : GE G X i fi) (hs : NoSl i) : GE G X (.Subscript o i pos) (xBin getKE fo fi) := by
  intro Wx tk
  refine pe_imp (pe_dget (by have := Cc.un; omega) (ho Wx tk) (hi Wx tk) hs) ?_
  rintro σ H Q ⟨ρ, S, W, E, R, h⟩
  refine tE_of pkE E R h fun d S1 v H1 W1 T1 E1 R1 r1 h1 => tE_of pkE E1 R1 h1 fun k S2 u H2 W2 T2 E2 R2 r2 h2 => ?_
  unfold getKE at h2
  split at h2
  · rename_i ks kk q qk
    split at h2
    · rename_i x qx
      have ek := rep_key r2 qk
      subst ek
      obtain ⟨n, a, vs, rfl, rfl, _, _, e1, rr⟩ := R2.dic (r1.mono T2.le) q
      obtain ⟨w, w1, w2⟩ := rr.find qx
      exact ⟨a, w, rfl, by rw [← w1]; exact DGet.k e1, h2 w H2 W2 (.refl _ _) R2 w2⟩
    · exact h2.elim
  · exact h2.elim
/-- d.get(k, v) -/
def get2K (o k y : D) (S : Sto) : Res D := match dicD S o, keyD k with
  | some ks, some kk => some (.ok ((findK kk ks).getD y), S)
  | _, _ => none
def xGet2 (fo fk fv : EX) : EX := fun ρ S => bnd (fo ρ S) fun d S1 => match dicD S1 d with
  | some _ => bnd (fk ρ S1) fun k S2 => bnd (fv ρ S2) fun y S3 => get2K d k y S3
  | none => none
theorem ge_get2 (Cc : Ctx X) (ho : GE G X o fo) (he : GE G X e fe) (hf : GE G X f ff) (m : M2 X o "get" apos e f cpos) : GE G X (.Call (.Attribute o "get" apos) [e, f] [] cpos) (xGet2 fo fe ff) := by
  intro Wx tk
  refine pe_imp (pe_dget2 (by have := Cc.un; omega) (ho Wx tk) (he Wx tk) (hf Wx tk) m) ?_
  rintro σ H Q ⟨ρ, S, W, E, R, h⟩
  refine tE_of pkE E R h fun d S1 v H1 W1 T1 E1 R1 r1 h1 => ?_
  split at h1
  · rename_i ks0 q0
    obtain ⟨n, a, vs0, rfl, rfl, ha, _, e1, _⟩ := R1.dic r1 q0
    refine ⟨a, rfl, .inl ⟨vs0, .of e1⟩, ?_⟩
    refine tE_of pkE E1 R1 h1 fun k S2 u H2 W2 T2 E2 R2 r2 h2 => tE_of pkE E2 R2 h2 fun y S3 z H3 W3 T3 E3 R3 r3 h3 => ?_
    unfold get2K at h3
    split at h3
    · rename_i ks kk q qk
      have ek := rep_key r2 qk
      subst ek
      obtain ⟨n', a', vs, en, ea, _, _, e2, rr⟩ := R3.dic ((r1.mono T2.le).mono T3.le) q
      cases ea
      refine ⟨valV vs kk, DGet.k e2, ?_⟩
      cases qf : findK kk ks with
      | none =>
        rw [qf] at h3
        rw [rr.no qf]
        exact h3 z H3 W3 (.refl _ _) R3 r3
      | some x =>
        rw [qf] at h3
        obtain ⟨w, w1, w2⟩ := rr.find qf
        rw [w1]
        exact h3 w H3 W3 (.refl _ _) R3 w2
    · exact h3.elim
  · exact h1.elim
/-- d[k] = v, k a number or a text -/
def putKE (o k v : D) (S : Sto) : Res D := match o, keyD k with
  | .cell n, some kk => match S[n]? with
    | some (some (.dK ks)) => if ks.length < cap then some (.ok .non, S.set n (some (.dK (putD ks kk v)))) else none
    | _ => none
  | _, _ => none
def xDPutE (fo fi fe : EX) : ES := fun ρ S => bndS (bnd (fe ρ S) fun v S1 => bnd (fo ρ S1) fun o S2 => bnd (fi ρ S2) fun k S3 => putKE o k v S3) ρ fun _ S4 => some (.nx ρ S4)
theorem gs_dputE (Cc : Ctx X) (ho : GE G X o fo) (hi : GE G X i fi) (hv : GE G X e fe) (hs : swapsWith e (some (.Subscript o i pos')) pos.line X.env = pure false := by rfl) : GS G X (.Assign [.Subscript o i pos'] e pos) (xDPutE fo fi fe) := by
  intro Wx tk
  refine ps_imp (ps_dput (by have := Cc.un; omega) (ho Wx tk) (hi Wx tk) (hv Wx tk) hs) ?_
  rintro Dn σ H ⟨ρ, S, W, E, R, h⟩
  have h' : PostE G X.K Wx σ (fun _ H' => Dn.nx σ H') W H (bnd (fe ρ S) fun v S1 => bnd (fo ρ S1) fun o S2 => bnd (fi ρ S2) fun k S3 => putKE o k v S3) := by
    unfold xDPutE at h
    generalize (bnd (fe ρ S) fun v S1 => bnd (fo ρ S1) fun o S2 => bnd (fi ρ S2) fun k S3 => putKE o k v S3) = z at h ⊢
    match z, h with
    | none, h => exact h
    | some (.ok x, S2), h => exact fun v H' W' T R' _ => h σ H' W' T (E.mono T.le) R'
    | some (.error x, S2), h => exact fun cls dx H' W' T R' er => h cls dx σ H' W' T (E.mono T.le) R' er
  refine tE_of pkE E R h' fun v S1 u H1 W1 T1 E1 R1 r1 h1 => tE_of pkE E1 R1 h1 fun d S2 w H2 W2 T2 E2 R2 r2 h2 => tE_of pkE E2 R2 h2 fun k S3 z H3 W3 T3 E3 R3 r3 h3 => ?_
  unfold putKE at h3
  split at h3
  · rename_i n kk qk
    split at h3
    · rename_i ks q
      split at h3
      · rename_i hc
        have r2' := r2.mono T3.le
        cases r2' with
        | @cell a _ ha =>
          have ek := rep_key r3 qk
          subst ek
          obtain ⟨a', z1, _, vs, z3, z4⟩ := R3.cl n _ q
          rw [ha] at z1
          cases z1
          obtain ⟨T4, R4⟩ := R3.put q ha (c' := .dK (putD ks kk v)) (o := .dK (putK vs kk u)) ⟨_, upd_same, z4.put ((r1.mono T2.le).mono T3.le)⟩
          exact ⟨a, _, rfl, DPut.k z3 (Nat.lt_of_lt_of_le (by rw [← z4.len]; exact hc) cap_le), h3 .non _ W3 T4 R4 .non⟩
      · exact h3.elim
    · exact h3.elim
  · exact h3.elim
end
theorem pv {X : Cx} (i : Nat) {x : Str} {pos : Pos} (hN : X.N[i]? = some x := by rfl) (hv : Vis X.env.scope x := by first | exact Or.inl rfl | exact Or.inr (Or.inl rfl) | exact Or.inr (Or.inr rfl))
    (hd : (x == ("__debug__" : Str)) = false := by decide) (hcd : (x == ("__classdict__" : Str)) = false := by decide) : PE X (.Name x pos) (tVar i) := pe_var hN hv hd hcd
end EV

/-! E16: repr of plain values too. -/
namespace EV
open PySem PySem.Spec PyProof.Rows L2
section
variable {G : Sig} {X : Cx}
def gReprP : List D → Sto → Res D
  | [.bl b], S => some (.ok (.str (if b then "True" else "False")), S)
  | [.non], S => some (.ok (.str "None"), S)
  | [.int i], S => if i.natAbs.log2 < 1920 then some (.ok (.str (toString i)), S) else none
  | ds, S => gReprR ds S
theorem call_reprP (hg : X.A.guards = some []) (hu : X.A.units + 100 < cLine) : CallR X (.builtin "repr") (fun vs H Q => (∃ b : Bool, vs = [.bl b] ∧ Q (.str (if b then "True" else "False")) H) ∨ (vs = [.non] ∧ Q (.str "None") H) ∨
    (∃ i, vs = [.int i] ∧ i.natAbs.log2 < 1920 ∧ Q (.str (toString i)) H) ∨ (∃ a, vs = [.ref a]) ∧ rRepr X.K vs H Q) := by
  rintro pins s σ H xs us Q I r h
  rcases h with ⟨b, rfl, q⟩ | ⟨rfl, q⟩ | ⟨i, rfl, hz, q⟩ | h
  · obtain ⟨u, rfl, rfl⟩ := vals1 r
    exact PySem.P.repr_of_bool ⟨.str _, H, I.tok _, ⟨_, rfl⟩, q⟩
  · obtain ⟨u, rfl, rfl⟩ := vals1 r
    exact PySem.P.repr_of_none ⟨.str _, H, I.tok _, ⟨_, rfl⟩, q⟩
  · obtain ⟨u, rfl, t, rfl⟩ := vals1 r
    exact PySem.P.repr_of_int hz ⟨.str _, H, I.tok _, ⟨_, rfl⟩, q⟩
  · exact call_reprD hg hu pins s σ H xs us Q I r h
theorem k_reprP : CallOk G X (fun vs H Q => (∃ b : Bool, vs = [.bl b] ∧ Q (.str (if b then "True" else "False")) H) ∨ (vs = [.non] ∧ Q (.str "None") H) ∨
    (∃ i, vs = [.int i] ∧ i.natAbs.log2 < 1920 ∧ Q (.str (toString i)) H) ∨ (∃ a, vs = [.ref a]) ∧ rRepr X.K vs H Q) gReprP := by
  intro Wx σ Q W S H ds vs R r h
  unfold gReprP at h
  split at h
  · obtain ⟨v, rfl, h1⟩ := reps1 r
    cases h1
    exact .inl ⟨_, rfl, h _ H W (.refl _ _) R (.str _)⟩
  · obtain ⟨v, rfl, h1⟩ := reps1 r
    cases h1
    exact .inr (.inl ⟨rfl, h _ H W (.refl _ _) R (.str _)⟩)
  · split at h
    · rename_i hz
      obtain ⟨v, rfl, h1⟩ := reps1 r
      cases h1
      exact .inr (.inr (.inl ⟨_, rfl, hz, h _ H W (.refl _ _) R (.str _)⟩))
    · exact h.elim
  · exact .inr (.inr (.inr (k_repr Wx σ Q W S H ds vs R r h)))
end
end EV

/-! E17: dict([(0 - k, d[k]) for k in d]). -/
namespace EV
open PySem PySem.Spec PyProof.Rows L2
def negKey : Key → Key
  | .inl i => .inl (0 - i)
  | .inr s => .inr s
theorem negKey_inj {a b : Key} (h : negKey a = negKey b) : a = b := by
  cases a with
  | inl i => cases b with
    | inl j =>
      have : (0 - i : Int) = 0 - j := Sum.inl.inj h
      rw [show i = j by omega]
    | inr s => cases h
  | inr s => cases b with
    | inl j => cases h
    | inr t => exact h
theorem RS.ext {G : Sig} {K : PySem.W.Frag} {W : Wd} {S : Sto} {H H' : Hp} (R : RS G K W S H) (e : ∀ b o, H b = some o → H' b = some o) : Stp W H W H' ∧ RS G K W S H' := by
  refine ⟨⟨.refl W, fun b o h l => ⟨e b o h, l⟩⟩, ⟨fun b u h => e b u (R.fr b u h), fun b t d h => ?_, R.len, R.nd, fun b hb => ?_, R.nob, fun n c h => ?_, R.er⟩⟩
  · obtain ⟨q1, o, q2, q3⟩ := R.ob b t d h
    exact ⟨q1, o, e b o q2, q3⟩
  · cases q : H b with
    | none => exact absurd q (R.ful b hb)
    | some o => rw [e b o q]; exact fun z => nomatch z
  · obtain ⟨a, q1, q2, q3⟩ := R.cl n c h
    refine ⟨a, q1, q2, q3.mono (Wd.le.refl _) ?_⟩
    cases q : H a with
    | none => exact absurd q q3.there
    | some o => exact e a o q
theorem paired_ix {α β : Type} {R : α → β → Prop} : ∀ {as : List α} {bs : List β}, as.length = bs.length → (∀ (t : Nat) a b, as[t]? = some a → bs[t]? = some b → R a b) → Paired R as bs
  | [], [], _, _ => .nil
  | [], _ :: _, h, _ => by cases h
  | _ :: _, [], h, _ => by cases h
  | a :: as, b :: bs, h, r => .cons (r 0 a b rfl rfl) (paired_ix (by simpa using h) fun t x y h1 h2 => r (t + 1) x y h1 h2)
theorem merge_all : ∀ (l acc : List (Key × V)), ((acc ++ l).map Prod.fst).Nodup → mergeK acc l = acc ++ l
  | [], acc, _ => by rw [List.append_nil]; rfl
  | kv :: l, acc, h => by
    have e : putK acc kv.1 kv.2 = acc ++ [kv] := by
      unfold putK
      rw [if_neg]
      intro z
      obtain ⟨q, hq, e⟩ := List.any_eq_true.mp z
      rw [List.map_append, List.nodup_append] at h
      exact h.2.2 q.1 (List.mem_map_of_mem hq) kv.1 (by simp) (of_decide_eq_true e)
    show mergeK (putK acc kv.1 kv.2) l = _
    rw [e, merge_all l (acc ++ [kv]) (by rw [List.append_assoc]; exact h), List.append_assoc]
    rfl
theorem nodup_neg {α : Type} : ∀ {ks : List (Key × α)}, (ks.map Prod.fst).Nodup → ((ks.map fun p => (negKey p.1, p.2)).map Prod.fst).Nodup
  | [], _ => List.nodup_nil
  | p :: ks, h => by
    rw [List.map_cons, List.nodup_cons] at h
    rw [List.map_cons, List.map_cons, List.nodup_cons]
    refine ⟨fun z => ?_, nodup_neg h.2⟩
    obtain ⟨q, hq, e⟩ := List.mem_map.mp z
    obtain ⟨r, hr, rfl⟩ := List.mem_map.mp hq
    exact h.1 (List.mem_map.mpr ⟨r, hr, negKey_inj e⟩)
theorem repF_neg {K : PySem.W.Frag} {W : Wd} : ∀ {ks : List (Key × D)} {vs : List (Key × V)}, RepF K W ks vs → RepF K W (ks.map fun p => (negKey p.1, p.2)) (vs.map fun p => (negKey p.1, p.2))
  | _, _, .nil => .nil
  | _, _, .cons h r => .cons ⟨congrArg negKey h.1, h.2⟩ (repF_neg r)
section
variable {G : Sig} {X : Cx} {pos p0 p1 p2 p3 p4 p5 p6 p7 p8 p9 p10 : Pos}
def xDNeg (i j : Nat) : EX := fun ρ S => match ρ[i]? with
  | some (some (.cell n)) => match S[n]? with
    | some (some (.dK ks)) => if j < ρ.length ∧ ks.length < cap ∧ (ks.map Prod.fst).Nodup ∧ (ks.all fun p => p.1.isLeft) = true then some (.ok (.cell S.length), S ++ [some (.dK (ks.map fun p => (negKey p.1, p.2)))]) else none
    | _ => none
  | _ => none
/-- what stands behind m turns -/
def DnAt (H : Hp) (a D : Addr) (od : Obj) (vs : List (Key × V)) (m : Nat) (H' : Hp) : Prop := ∃ ps : List Addr, ps.length = m ∧ H' D = some (.lst (ps.map V.ref)) ∧ H' a = some (.frz od (.dK vs)) ∧ D ≠ a ∧ (∀ b o, H b = some o → b ≠ a → H' b = some o) ∧
  ∀ (t : Nat) p q, ps[t]? = some p → vs[t]? = some q → p ≠ a ∧ p ≠ D ∧ H' p = some (.tup [kV (negKey q.1), q.2])
theorem dn_imp {Wx : WX} {i j : Nat} (hij : i ≠ j) (σ : L2.St) (H : Hp) (Q : VK) (hh : tE G X.K Wx (xDNeg i j) σ H Q) :
    tCB (fun xs H Q => ∃ (a : Addr) (ps : List Addr) (kvs : List (Key × V)), xs = [.ref a] ∧ SqL X.K H a (ps.map V.ref) ∧ Paired (fun p kv => SqT X.K H p [kV kv.1, kv.2]) ps kvs ∧ ∀ p, H p = none → Q (.ref p) (upd H p (.dK (mergeK [] kvs))))
      (tCons (tLockE (tLc (iKeys (tVar i)) (L2.gName j) tYes (tTup (tCons (tOp (rI0 fun i j => .int (i - j)) (tC (.int 0)) (tVar j)) (tCons (tDGet (tVar i) (tVar j)) tNil))) [j])) tNil) σ H Q := by
  obtain ⟨ρ, S, W, E, R, h⟩ := hh
  unfold xDNeg at h
  split at h
  · rename_i n e1
    split at h
    · rename_i ks e2
      split at h
      · rename_i hc
        obtain ⟨v, q1, q2⟩ := E.2 i _ e1
        cases q2 with
        | @cell a _ ha =>
          obtain ⟨a', z1, zW, vs, z3, z4⟩ := R.cl n _ e2
          rw [ha] at z1
          cases z1
          refine ⟨a, .dK vs, z3, trivial, fun od => ?_⟩
          refine ⟨_, q1, a, od, rfl, .inl ⟨vs, upd_same, fun D hD => ?_⟩⟩
          have hDa : D ≠ a := fun z => by rw [z, upd_same] at hD; cases hD
          have hDH : H D = none := by rwa [upd_ne hDa] at hD
          have hl : vs.length = ks.length := z4.len.symm
          obtain ⟨m1, m2⟩ := vals_at z4
          have lft : ∀ (t : Nat) k v, vs[t]? = some (k, v) → ∃ i : Int, k = .inl i := fun t k v hv => by
            have : k ∈ ks.map Prod.fst := by rw [← m1]; exact List.mem_map.mpr ⟨_, List.mem_of_getElem? hv, rfl⟩
            obtain ⟨p, hp, rfl⟩ := List.mem_map.mp this
            have := List.all_eq_true.mp hc.2.2.2 p hp
            cases q : p.1 with
            | inl i => exact ⟨i, rfl⟩
            | inr s => rw [q] at this; cases this
          have capl : cap ≤ sizeLine := cap_le
          refine lc_it walk_keys (DnAt H a D od vs) ⟨[], rfl, upd_same, by rw [upd_ne hDa.symm, upd_same], hDa, fun b o hb hba => ?_, fun t p q hp _ => by simp at hp⟩ ?_ ?_ ?_
          · rw [upd_ne (ne_of_none hb hDH), upd_ne hba]
            exact hb
          · rintro m H' hm ⟨ps, _, _, e, _⟩
            exact e
          · rintro m x H' H2 hm ⟨ps, pl, eD, ea, _, keep, told⟩ ⟨rfl, k, v, hkv, rfl⟩
            have sl : σ.length = ρ.length := E.1.symm
            have jl : j < σ.length := by rw [sl]; exact hc.1
            have nd : (vs.map Prod.fst).Nodup := by rw [m1]; exact hc.2.2.1
            obtain ⟨kk, rfl⟩ := lft m k v hkv
            have sj : ((wipe σ [j]).set j (some (kV (.inl kk))))[j]? = some (some (kV (.inl kk))) := List.getElem?_set_self (by show j < (σ.set j none).length; rw [List.length_set]; exact jl)
            have si : ((wipe σ [j]).set j (some (kV (.inl kk))))[i]? = some (some (.ref a)) := by
              rw [List.getElem?_set_ne (Ne.symm hij)]
              show (σ.set j none)[i]? = _
              rw [List.getElem?_set_ne (Ne.symm hij)]
              exact q1
            refine ⟨by simp [wipe], ?_⟩
            refine ⟨kV (.inl kk), sj, 0, kk, rfl, rfl, .ref a, si, kV (.inl kk), sj, a, v, rfl, .inl ⟨vs, .inl kk, .inr ⟨od, ea⟩, rfl, (val_nodup nd hkv).symm⟩, by show 2 ≤ sizeLine; rw [sizeLine_eq]; omega, fun p hp => ?_⟩
            have pD : p ≠ D := fun z => by rw [z, eD] at hp; cases hp
            have pa : p ≠ a := fun z => by rw [z, ea] at hp; cases hp
            refine ⟨_, by rw [upd_ne pD.symm]; exact eD, by rw [List.length_map, pl]; omega, ps ++ [p], by rw [List.length_append, pl]; rfl, by rw [upd_same, List.map_append]; rfl, by rw [upd_ne hDa.symm, upd_ne pa.symm]; exact ea, hDa, fun b o hb hba => ?_, fun t p' q h1 h2 => ?_⟩
            · have bD : b ≠ D := ne_of_none hb hDH
              have hb' := keep b o hb hba
              rw [upd_ne bD, upd_ne (fun z => by rw [z, hp] at hb'; cases hb')]
              exact hb'
            · by_cases c : t < ps.length
              · rw [List.getElem?_append_left c] at h1
                obtain ⟨x1, x2, x3⟩ := told t p' q h1 h2
                refine ⟨x1, x2, ?_⟩
                rw [upd_ne x2, upd_ne (fun z => by rw [z, hp] at x3; cases x3)]
                exact x3
              · rw [List.getElem?_append_right (by omega)] at h1
                have t0 : t - ps.length = 0 := by
                  have := (List.getElem?_eq_some_iff.mp h1).1
                  simp at this
                  omega
                rw [t0] at h1
                cases h1
                have tm : t = m := by omega
                subst tm
                rw [hkv] at h2
                cases h2
                refine ⟨pa, pD, ?_⟩
                rw [upd_ne pD, upd_same]
                rfl
          · rintro H' ⟨ps, pl, eD, ea, _, keep, told⟩
            refine ⟨ea, D, ps, vs.map (fun p => (negKey p.1, p.2)), rfl, ?_, ?_, fun p hp => ?_⟩
            · exact .of (by rw [upd_ne hDa]; exact eD)
            · refine paired_ix (by rw [pl, List.length_map]) fun t p q h1 h2 => ?_
              rw [List.getElem?_map] at h2
              obtain ⟨q0, h3, rfl⟩ := Option.map_eq_some_iff.mp h2
              obtain ⟨x1, x2, x3⟩ := told t p q0 h1 h3
              exact .inl (.inl (by rw [upd_ne x1]; exact x3))
            · have ext : ∀ b o, H b = some o → upd H' a (.dK vs) b = some o := fun b o hb => by
                by_cases c : b = a
                · subst c
                  rw [upd_same, ← hb, z3]
                · rw [upd_ne c]
                  exact keep b o hb c
              obtain ⟨T1, R1⟩ := R.ext ext
              have h0 : H p = none := T1.free R1 hp
              have hmr : mergeK [] (vs.map fun p => (negKey p.1, p.2)) = vs.map fun p => (negKey p.1, p.2) := by
                rw [merge_all _ [] (by rw [List.nil_append]; exact nodup_neg (by rw [m1]; exact hc.2.2.1))]
                rfl
              rw [hmr]
              obtain ⟨T0, R0, L0⟩ := R1.new hp (.dK (vs.map fun p => (negKey p.1, p.2)))
              obtain ⟨W4, le4, T4, R4, e4⟩ := R0.cell (T1.trans T0) h0 L0 (c := .dK (ks.map fun p => (negKey p.1, p.2))) ⟨_, upd_same, repF_neg z4⟩
              exact h _ _ W4 T4 R4 (.cell e4)
      · exact h.elim
    · exact h.elim
  · exact h.elim
theorem ge_dneg {i j cj tx : Nat} {near key dic : Str} {scope : Scope} (Cc : Ctx X) (hd : Gl X dic) (hm : X.mg dic = none) (hbt : bootBuiltins dic = some (.type "dict")) (hdn : dic ≠ "__name__") (hdd : (dic == ("__debug__" : Str)) = false) (hj : X.N[j]? = some key) (hij : i ≠ j) (ok : BlkOk X.N X.env.scope scope [(key, j)])
    (hg : ∀ (s : Shared) (H : Hp) (C : Addr) (cl : List (Str × Addr)) (fp : List Addr), PG (X.blk s H scope (compEnvC scope cl C X.env) fp) (.Name key p4) (L2.gName j))
    (h1 : ∀ (s : Shared) (H : Hp) (C : Addr) (cl : List (Str × Addr)) (fp : List Addr), PE (X.blk s H scope (compEnvC scope cl C X.env) fp) (.Name near p1) (L2.tVar i))
    (h2 : ∀ (s : Shared) (H : Hp) (C : Addr) (cl : List (Str × Addr)) (fp : List Addr), PE (X.blk s H scope (compEnvC scope cl C X.env) fp) (.Name key p2) (L2.tVar j))
    (h3 : ∀ (s : Shared) (H : Hp) (C : Addr) (cl : List (Str × Addr)) (fp : List Addr), PE (X.blk s H scope (compEnvC scope cl C X.env) fp) (.Name key p6) (L2.tVar j))
    (h0 : PE X (.Name near p5) (L2.tVar i)) (hs : ∀ x, foldedSetIterable (.Name near p5) X.env x = pure x := by intro _; rfl) :
    GE G X (.Call (.Name dic p0) [.ListComp (.Tuple [.BinOp (.Constant (.int 0) cj p7) .Sub (.Name key p6) p8, .Subscript (.Name near p1) (.Name key p2) p3] tx p9) [⟨.Name key p4, .Name near p5, [], 0⟩] scope p10] [] pos) (xDNeg i j) := by
  intro Wx tk
  refine pe_imp (pe_callTy (call_dictP Cc.calm) hd hm hbt (pa_cons (pe_lock (pe_lc Cc.calm Cc.nd (pi_keys h0) ok hg (fun s H C cl fp => pts_nil) (fun s H C cl fp => pe_tup (pa_cons (pe_op op_sub pe_int (h3 s H C cl fp)) (pa_cons (pe_dget (by have := Cc.un; show X.A.units + 1 < cLine; omega) (h1 s H C cl fp) (h2 s H C cl fp) (fun _ _ => rfl)) pa_nil))) hs)) pa_nil) hdn hdd) (dn_imp hij)
end
end EV

/-! E18: an own error's __init__ that says super().__init__(value); self.value = value. -/
namespace EV
open PySem PySem.Spec PyProof.Rows L2 NdefX
/-- what the text says of the __init__ at f, over the class D -/
structure IniF (P : Program) (K : PySem.W.Frag) (f D cc cda : Addr) (F : NF) : Prop where
  cl : F.cl = [(("__class__" : Str), cc)]
  c : F.c = cda
  lk : ∃ (oc : Value) (od : Option Addr) (osl : Array (Option Value)) (kV doc pm ct : Value) (an : Option Addr), K.lookup f = some ⟨oc, od, .func (PySem.W.ksFn F.name F.qual F.params F.body F.scope .none kV doc pm an (.ref cda) ct cc), osl⟩
  cd : PySem.W.codeIn K (.ref cda) F.qual = true
  S : NScope ["self", "value", "__class__"] ["self", "value"] ["__class__"] F.scope
  sup : F.scope.names.lookup ("super" : Str) = some .globalImplicit
  par : ∃ ar : Arg, (F.params.posonlyargs ++ F.params.args).head? = some ar ∧ ar.arg = "self"
  file : ∃ (ccl : Value) (cdd : Option Addr) (vs : Array Value) (ccs : Array (Option Value)) (fl : Str) (tf : Tok), K.lookup cda = some ⟨ccl, cdd, .fields vs, ccs⟩ ∧ vs[2]? = some (.str fl tf) ∧ ((P.main.file : Str) == fl) = true
  cell : ∃ (cl : Value) (cld : Option Addr) (csl : Array (Option Value)), K.lookup cc = some ⟨cl, cld, .cell (some (.ref D)), csl⟩
  D : ∃ cd, PySem.W.clsIn K D = some cd
  top : (P.main.scope.names.lookup ("super" : Str)).isSome = false
  bind : ∀ (kV doc pm ct : Value) (an : Option Addr) (us : List Value), us.length = 2 → bindArgs (PySem.W.ksFn F.name F.qual F.params F.body F.scope .none kV doc pm an (.ref cda) ct cc) ⟨us, []⟩ = pure ((["self", "value"] : List Str).zip us)
  body : ∃ p0 p1 p2 p3 p4 p5 p6 p7 p8 p9, F.body = [.Expr (.Call (.Attribute (.Call (.Name "super" p0) [] [] p1) "__init__" p2) [.Name "value" p3] [] p4) p5, .Assign [.Attribute (.Name "self" p6) "value" p7] (.Name "value" p8) p9] ∧ (p2.endLine == p4.line) = true
/-- what the text says of an error's class C below D -/
structure IniC (K : PySem.W.Frag) (C D : Addr) : Prop where
  o : OexC K C
  sub : PySem.W.mroIn K C (.ref D) = some true
  ini : PySem.W.ks_superIn K C D "__init__" = some (some (.builtin "ValueError.__init__"))
  ve : PySem.W.subIn K (.ref C) (.type "ValueError") = some true
  made : PySem.W.excInitIn K C [.type "ValueError", .type "Exception", .type "BaseException", .type "object"] "ValueError.__new__" = true
  no : PySem.W.findIn K (.ref C) "value" = some none
  any : PySem.W.nsIn K PySem.cStatics "thirdparty.any" = some none
/-- the promise of the __init__ -/
def spIni (K : PySem.W.Frag) (D : Addr) : Sp := fun vs H Q _ => ∃ (a C : Addr) (y : V), vs = [.ref a, y] ∧ IniC K C D ∧ H a = some (exo a C none) ∧ ∀ dx, H dx = none → dx ≠ a → Q .non (upd (upd H dx (exd dx [("value", y)])) a (exo a C (some dx)))
section
variable {X : Cx} {pins : List (Addr × Obj)} {σ : L2.St} {H : Hp} {s : Shared} {f D cc cda a C : Addr} {F : NF} {y : V}
theorem super_at {Q : Value → Shared → Prop} {E : Value → Shared → Prop} {body : List Stmt} {p0 p1 : Pos} {whole : Sem Value} {A : Around} (I : IniF X.prog X.K f D cc cda F) (T : IniC X.K C D) (J : Inv X [] σ H s) (he : X.env = PySem.W.envX F.qual F.scope X.env.locals f (.ref F.c) F.cl) (hN : X.N = (["self", "value", "__class__"] : List Str)) (hs : σ[0]? = some (some (.ref a))) (ha : H a = some (exo a C none))
    (hm : X.mg "super" = none) (h : ∀ so h', (∀ b o, s.heap.get? b = some o → h'.get? b = some o) → h'.get? so = some (PySem.W.ks_superObj D a C) → Q (.ref so) { s with heap := h' }) :
    _root_.PySem.wpAt (model X.prog X.w) A (.func body X.env) (attributeBase (.Call (.Name "super" p0) [] [] p1) "__init__" X.env whole) Q E s := by
  obtain ⟨oc, od, osl, kV, doc, pm, ct, an, lk⟩ := I.lk
  obtain ⟨ar, hp, har⟩ := I.par
  obtain ⟨ccl, cdd, vs, ccs, fl, tf, hcode, hvs, hfile⟩ := I.file
  obtain ⟨cl', cld, csl, hcell⟩ := I.cell
  obtain ⟨cdD, hD⟩ := I.D
  have KX : X.K.In s.heap := J.kIn
  have kq : ∀ x, X.env.kindOf x = F.scope.names.lookup x := fun x => by rw [he]; rfl
  have kind : X.env.scope.kind = .function := J.ok.kind
  obtain ⟨oD, hD1, hD2⟩ : ∃ oD, s.heap.get? D = some oD ∧ oD.data = .cls cdD := by
    unfold PySem.W.clsIn at hD
    split at hD
    · rename_i c d cd' sl ho
      cases hD
      exact ⟨_, KX _ _ ho, rfl⟩
    · cases hD
  obtain ⟨t1, hoa⟩ := exo_at J.hok ha
  have kc : X.env.kindOf "__class__" = some .free := by rw [kq]; exact I.S.frk _ (by simp)
  have kself : X.env.kindOf "self" = some .local := by rw [kq]; exact I.S.par _ (by simp)
  have ksup : X.env.kindOf "super" = some .globalImplicit := by rw [kq]; exact I.sup
  have hcl : X.env.cells = [(("__class__" : Str), cc)] := by rw [he]; exact I.cl
  have hcode' : X.env.code = .ref cda := by
    rw [he]
    show Value.ref F.c = .ref cda
    rw [I.c]
  obtain ⟨mb, b1, b2⟩ := J.mod.blt
  obtain ⟨m, hns, hlook⟩ := J.loc
  obtain ⟨hh, g, d, t, os⟩ := s
  refine PySem.ks_wpAt_super_base (f := f) (cc := cda) ksup kc (by decide) (by rw [he] <;> rfl) (KX _ _ lk) rfl hp hcode' (KX _ _ hcode) rfl hvs hfile I.top ?_
  refine PySem.W.ks_loadName_global kind ksup (PySem.Calls.loadGlobal_builtin (by rw [J.ok.glob]; exact J.mod.glob.keeps J.bk) hm (by rw [J.ok.blt]; exact b1.keeps J.bk) ((b2 "super" (by decide)).trans (by decide +kernel)) ⟨rfl, ?_⟩)
  refine wpAny_loadName_free kind kc (by rw [hcl]; rfl) ⟨_, KX _ _ hcell, rfl⟩ ?_
  have hself : m "self" = some (.ref a) := by
    obtain ⟨u, ru, hl⟩ := hlook 0 "self" (.ref a) (by rw [hN]; rfl) hs (.inl (by rw [← kself]; rfl))
    obtain rfl : u = Value.ref a := ru
    rcases hl with ⟨_, e⟩ | ⟨e, _⟩
    · exact e
    · rw [kself] at e
      rcases e with e | e <;> cases e
  refine wpAny_loadName_local kind (by rw [har]; exact kself) hns (by rw [har]; exact hself) ?_
  refine PySem.ks_wpAny_isType_cls hD1 hD2 ⟨rfl, ?_⟩
  refine PySem.ks_wpAny_call_super hD1 hD2 hoa rfl (fun c e => by cases e) (PySem.W.looks_mroIn KX T.sub) fun h' e k => ?_
  exact h _ h' k e
theorem meth_at {Q : Value × List Value → Shared → Prop} {E : Value → Shared → Prop} {A : Around} {so : Addr} {pl : Sem Bool} (T : IniC X.K C D) (J : Inv X [] σ H s) (ha : H a = some (exo a C none)) (hso : s.heap.get? so = some (PySem.W.ks_superObj D a C))
    (h : ∀ u h', (∀ b o, s.heap.get? b = some o → h'.get? b = some o) → s.heap.objs.size ≤ u → h'.get? u = some (PySem.W.kxs_mw "ValueError.__init__" a) → Q (.ref u, []) { s with heap := h', toks := s.toks + 1 }) :
    wpAny (model X.prog X.w) A (getMethod (.ref so) "__init__" pl) Q E s := by
  have KX : X.K.In s.heap := J.kIn
  obtain ⟨t1, hoa⟩ := exo_at J.hok ha
  have IA : PySem.W.InstAt s.heap a _ C none := ⟨hoa, rfl, rfl, trivial⟩
  have hI : PySem.W.Looks (model X.prog X.w) s.heap (isInstance (.ref a) (.type "ValueError")) true := IA.type.andThen (PySem.W.looks_subIn KX T.ve)
  have no := PySem.W.looks_opaque (M := model X.prog X.w) (C := C) KX T.any
  have ini := T.ini
  unfold PySem.W.ks_superIn at ini
  cases hc : PySem.W.clsIn X.K C with
  | none => rw [hc] at ini; cases ini
  | some cd =>
    rw [hc] at ini
    obtain ⟨hh, g, d, t, os⟩ := s
    exact PySem.W.kxs_getMethod PySem.W.kxs_ValueError hso no (fun A Q E s k q => wpAny_bind ((PySem.W.looks_clsIn KX hc) A _ E s k (wpAny_pure q))) rfl KX ini hI (PySem.W.ks_ne KX IA hc) (by decide)
      (h _ _ (fun b o e => Heap.get?_push_of_some _ e) (Nat.le_refl _) (Heap.get?_push_at rfl rfl))
/-- the bound ValueError.__init__ called -/
theorem init_at {Q : Value → Shared → Prop} {E : Value → Shared → Prop} {u : Addr} {us : List Value} (T : IniC X.K C D) (J : Inv X pins σ H s) (ha : H a = some (exo a C none)) (hu : s.heap.get? u = some (PySem.W.kxs_mw "ValueError.__init__" a)) (hz : us.length ≤ 1000)
    (h : ∀ s', Inv X pins σ H s' → Q .none s') : wpAny (model X.prog X.w) X.A (call (.ref u) us) Q E s := by
  obtain ⟨t1, hoa⟩ := exo_at J.hok ha
  have z : us.length ≤ sizeLine := by rw [sizeLine_eq]; omega
  obtain ⟨nm, N, q, bs, bm, hd, sn, sub, ab, col, dd, k0, k1, k2, k3, k5, hC, hT⟩ := PySem.W.excInit_of J.kIn T.made
  have FB := F.excBase_ValueError
  have same : upd H a (exo a C none) = H := funext fun b => by
    by_cases c : b = a
    · rw [c, upd_same, ha]
    · rw [upd_ne c]
  obtain ⟨hh, g, d, tk, os⟩ := s
  have done : ∀ h', (∀ b o, b ≠ a → hh.get? b = some o → h'.get? b = some o) → h'.get? a = some (PySem.W.excObj C hh.objs.size none .none) → Q .none ⟨h', g, d, tk, os⟩ := fun h' k e => by
    have J2 := J.write (t' := tk) (x := a) (e := a) (o := exo a C none) (by rw [ha]; exact True.intro) (.inl rfl) k ⟨_, e⟩ (exo_ok e)
    rw [same] at J2
    exact h _ J2
  have mw1 : ((PySem.W.kxs_mw "ValueError.__init__" a).cls == Value.type "method" || (PySem.W.kxs_mw "ValueError.__init__" a).cls == Value.type "builtin_function_or_method" || (PySem.W.kxs_mw "ValueError.__init__" a).cls == Value.type "method-wrapper") = true := by
    show (Value.type "method-wrapper" == Value.type "method" || Value.type "method-wrapper" == Value.type "builtin_function_or_method" || Value.type "method-wrapper" == Value.type "method-wrapper") = true
    decide
  have mw2 : ((PySem.W.kxs_mw "ValueError.__init__" a).cls != Value.type "method") = true := by
    show (Value.type "method-wrapper" != Value.type "method") = true
    decide
  refine wpAny_call (codeAny_of_tree (?_ : wpAny _ X.A.in1 (callAny (.ref u) ⟨us, []⟩) _ _ _))
  unfold callAny
  refine wpAny_bind (wpAny_load hu ?_)
  refine PySem.W.KFB.if_so mw1 (PySem.W.KFB.if_so mw2 (wpAny_bind (PySem.W.check_bound_init FB.toExcCallFacts hC hoa rfl (wpAny_bind (wpAny_pure (wpAny_pure ?_))))))
  exact ⟨plainId_quiet FB.init.plain _, codeAny_builtin FB.initEntry (PySem.W.exc_init_tree (cls := .ref C) (t0 := t1) (dv := none) (c2 := .none) (c3 := .none) (b4 := .bool false) hoa z fun h' k e _ => done h' k e)⟩
end
section
variable {P : Program} {w : World} {K : PySem.W.Frag} {mg : Str → Option Value} {base : Heap} {CX : CXT} {f D cc cda : Addr} {F : NF} {k : Nat}
theorem ini_ok (I : IniF P K f D cc cda F) (hm : mg "super" = none) : ∃ fd, FnOk P w K mg base CX k f fd ["self", "value"] (spIni K D) ∧ Binds K fd ["self", "value"] [] := by
  obtain ⟨oc, od, osl, kV, doc, pm, ct, an, lk⟩ := I.lk
  refine ⟨_, ⟨fun vs H Q E h => ?_, fun A outer s H args us vs Q E hr e0 hb r hsp => ?_⟩, .all fun us hl => I.bind kV doc pm ct an us hl⟩
  · obtain ⟨a, C, y, rfl, _⟩ := h
    rfl
  obtain ⟨a, C, y, rfl, T, ha, hq⟩ := hsp
  have KX : K.In s.heap := e0.mod.kin.keeps fun b o e => (e0.bs b o e).1
  have lim : s.heap.NoLimit := e0.mod.nolimit.keeps fun b o e => (e0.bs b o e).1
  obtain ⟨cl', cld, csl, hcell⟩ := I.cell
  obtain ⟨p0, p1, p2, p3, p4, p5, p6, p7, p8, p9, hbody, hpp⟩ := I.body
  have S := I.S
  have hcl := I.cl
  have hcd := I.c
  obtain ⟨name, qual, params, body, scope, cl, c⟩ := F
  dsimp only at *
  subst hcl hcd
  refine PySem.ks_codeAny_call_defAt (binds := (["self", "value"] : List Str).zip us) hr.depth (KX _ _ lk) rfl lim (PySem.W.codeRec_of KX I.cd) rfl hb S.nocell (fun x hx => S.par _ (List.of_mem_zip (show (x.1, x.2) ∈ _ from hx)).1) (fun h₁ hns kp => ?_) S.co S.gen S.kind
  have CA : CellsAt [(("__class__" : Str), cc)] ["__class__"] [none] s.heap H := {
    len := rfl
    all := fun y c e => by
      have ec : c = cc := by
        simp only [List.lookup] at e
        split at e
        · exact (Option.some.inj e).symm
        · cases e
      subst ec
      obtain ⟨g1, g2⟩ := e0.bs _ _ (e0.mod.kin _ _ hcell)
      exact ⟨g2, _, _, g1, rfl⟩
    inj := fun x y c e1 e2 => by
      simp only [List.lookup] at e1 e2
      split at e1
      · split at e2
        · rename_i q1 _ q2
          rw [eq_of_beq q1, eq_of_beq q2]
        · cases e2
      · cases e1
    has := fun i y e => by
      have i0 : i = 0 := by
        have := (List.getElem?_eq_some_iff.mp e).1
        simpa using this
      subst i0
      cases e
      exact ⟨cc, rfl, fun v z => by cases z⟩ }
  have J := inv_startN (CX := CX) (P := P) (w := w) (K := K) (mg := mg) (base := base) (N := ["self", "value", "__class__"]) (F := ⟨name, qual, params, body, scope, [(("__class__" : Str), cc)], c⟩) (f := f) (E := E) (tk := s.toks + ((["self", "value"] : List Str).zip us).length) S hr.hd e0 rfl r CA hns kp
  generalize hX : ncx CX P w K mg base ["self", "value", "__class__"] ⟨name, qual, params, body, scope, [(("__class__" : Str), cc)], c⟩ f A outer s H E = X at J
  have fin : ∀ {σ' : L2.St} {H' : Hp} {v : V} {u : Value} {s' : Shared}, Inv X [] σ' H' s' → L2.RelV v u → Q v H' → CE outer P w H s Q u s' := fun {σ' H' v u s'} J rv q => by
    subst hX
    exact ⟨v, H', J.os, J.bare, J.base, J.hok, rv, q⟩
  have goalX : _root_.PySem.wpAt (model X.prog X.w) X.A (.func body X.env) (execs body X.env) (fun fl s' => CE outer P w H s Q (match fl with | .ret v => v | _ => .none) s') X.xe { s with heap := h₁, toks := s.toks + ((["self", "value"] : List Str).zip us).length } := by
    have hK : X.K = K := by subst hX; rfl
    have hen : X.env = PySem.W.envX qual scope X.env.locals f (.ref c) [(("__class__" : Str), cc)] := by subst hX; rfl
    have hNN : X.N = (["self", "value", "__class__"] : List Str) := by subst hX; rfl
    have hmm : X.mg "super" = none := by subst hX; exact hm
    have IX : IniF X.prog X.K f D cc c ⟨name, qual, params, body, scope, [(("__class__" : Str), cc)], c⟩ := by subst hX; exact I
    have TX : IniC X.K C D := by subst hX; exact T
    have vis : ∀ x, x ∈ (["self", "value"] : List Str) → Vis X.env.scope x := fun x hx => .inl (by rw [hen]; exact S.par x hx)
    clear hX e0 hb
    subst hbody
    have notint : interactive X.env = false := by
      unfold interactive
      rw [hen]
      show (scope.kind == .module && _) = false
      rw [S.kind]
      rfl
    have he : eval (.Call (.Attribute (.Call (.Name "super" p0) [] [] p1) "__init__" p2) [.Name "value" p3] [] p4) X.env = (do
        let ov ← attributeBase (.Call (.Name "super" p0) [] [] p1) "__init__" X.env (eval (.Call (.Name "super" p0) [] [] p1) X.env)
        standAt p2.atName
        let (f, first) ← holding [ov] (getMethod ov "__init__" (do return (← (pure (some false) : Sem (Option Bool))).getD true))
        callWith p4 f first (backTo p4 (starEach [.Name "value" p3] X.env)) []) := by
      have e1 : ∀ (o : Expr), methodCallPos true o X.env p2 p4 = pure p4 := fun o => by
        unfold methodCallPos
        rw [hpp]
        rfl
      show (do
        let ov ← attributeBase (.Call (.Name "super" p0) [] [] p1) "__init__" X.env (eval (.Call (.Name "super" p0) [] [] p1) X.env)
        standAt p2.atName
        let (f, first) ← holding [ov] (getMethod ov "__init__" (do return (← (pure (some false) : Sem (Option Bool))).getD true))
        let callPos ← methodCallPos true (.Call (.Name "super" p0) [] [] p1) X.env p2 p4
        callWith callPos f first (backTo p4 (starEach [.Name "value" p3] X.env)) []) = _
      simp only [e1, pure_bind]
    refine PySem.ks_wpAt_execs_cons (PySem.ks_wpAt_Expr_any (PySem.ks_wpAt_MethodCall ?_ he) notint (by rfl))
    refine super_at IX TX J hen hNN rfl ha hmm fun so h2 k1 e1 => ?_
    have J2 : Inv X [] _ H ⟨h2, s.gens, s.drawn, s.toks + ((["self", "value"] : List Str).zip us).length, s.os⟩ := J.kept k1
    refine meth_at TX J2 ha e1 fun u h3 k2 hsz e2 => ?_
    have J3 : Inv X [] _ H ⟨h3, s.gens, s.drawn, s.toks + ((["self", "value"] : List Str).zip us).length + 1, s.os⟩ := J2.kept k2
    have uL : u ≠ X.env.locals := Nat.ne_of_gt (Nat.lt_of_lt_of_le J2.lt hsz)
    have uN : H u = none := J2.hok.fresh hsz
    have uB : X.base.get? u = none := Heap.get?_none_of_le (Nat.le_trans (Nat.le_trans J2.ok.bsz J2.sz) hsz)
    have N3 : News X.base X.env.locals h3 [(u, PySem.W.kxs_mw "ValueError.__init__" a)] := fun p hp => by
      rw [List.mem_singleton.mp hp]
      exact ⟨e2, uL, uB⟩
    have J4 : Inv X [(u, PySem.W.kxs_mw "ValueError.__init__" a)] _ H _ := J3.pins_of fun p hp => by
      rw [List.mem_singleton.mp hp]
      exact ⟨e2, uN, uL, J2.nofs hsz, fun v z => by cases z⟩
    refine PySem.W.kxs_callWith1 N3 (List.mem_singleton.mpr rfl) ?_ (by rfl) (by rfl)
    refine wpAny_mono ((pa_cons (pe_var (i := 1) (by rw [hNN]; rfl) (vis _ (by simp))) pa_nil).run _ _ _ _ H (fun vs H1 => vs = [y] ∧ H1 = H) J4 ⟨y, rfl, rfl, rfl⟩) (fun us1 s1 hp => ?_) fun _ _ z => z
    obtain ⟨vs1, H1, I1, r1, ev, eH⟩ := hp
    subst ev
    rw [eH] at I1
    have up := (I1.pin (u, PySem.W.kxs_mw "ValueError.__init__" a) (by simp)).1
    refine ⟨up, init_at TX I1 ha up (by rw [← r1.length]; show 1 ≤ 1000; decide) fun s' J5 => ?_⟩
    have J6 : Inv X [] _ H s' := J5.pins_of fun p hp => absurd hp (List.not_mem_nil)
    refine _root_.PySem.wpAt_of_wpAny ?_
    refine wpAny_mono ((pss_cons (ps_ost (pe_var (i := 0) (by rw [hNN]; rfl) (vis _ (by simp))) (pe_var (i := 1) (by rw [hNN]; rfl) (vis _ (by simp)))) pss_nil).run [] s' _ H { nx := fun _ H' => Q .non H', rt := Q } J6
      ⟨y, rfl, .ref a, rfl, a, C, rfl, TX.o, TX.no, .inl ⟨ha, fun dx n ne => hq dx n ne⟩⟩) (fun fl s'' hs => ?_) fun e s'' he => he
    cases fl with
    | ret u =>
      obtain ⟨v, σ', H', J7, rv, q⟩ := hs
      exact fin J7 rv q
    | next =>
      obtain ⟨σ', H', J7, q⟩ := hs
      exact fin (v := V.non) (u := Value.none) J7 rfl q
    | brk =>
      obtain ⟨_, _, _, q⟩ := hs
      exact False.elim q
    | cont =>
      obtain ⟨_, _, _, q⟩ := hs
      exact False.elim q
  subst hX
  refine PySem.ks_wpAt_mono goalX (fun fl s' h => ?_) fun e s' h => h
  exact h
end
end EV

/-! E19: raise of an own error; try .. except X as e. -/
namespace EV
open PySem PySem.Spec PyProof.Rows L2
/-! ### raise -/
def xRaise (c : Nat) (fr : EA) : ES := fun ρ S => bndS (fr ρ S) ρ fun ds S1 => match ds with
  | [d] => some (.er (c, d) ρ S1)
  | _ => none
theorem gs_raise {G : Sig} {X : Cx} {c k : Nat} {D0 fI : Addr} {fd : FuncData} {x : Str} {e : Expr} {fr : EA} {p pos pos' : Pos} (Cc : Ctx X) (T : IniC X.K (G.cls c) D0) (F1 : FnOk X.prog X.w X.K X.mg X.base CX0 k fI fd ["self", "value"] (spIni X.K D0)) (hb : Binds X.K fd ["self", "value"] []) (hr : Room (k + 1) X.A)
    (iC : PySem.W.findIn X.K (.ref (G.cls c)) "__init__" = some (some (.ref fI))) (tI : PySem.W.typeIn X.K (.ref fI) = some (.type "function")) (hg : Gl X x) (hm : X.mg x = some (.ref (G.cls c))) (ha : GA G X [e] fr)
    (hdb : (x == ("__debug__" : Str)) = false := by decide) (he : starEach [e] X.env = (false, eval e X.env) :: starEach [] X.env := by rfl) :
    GS G X (.Raise (some (.Call (.Name x p) [e] [] pos)) none pos') (xRaise c fr) := by
  intro Wx tk
  refine ps_imp (ps_raise Cc.calm tk (pmk_oex T.o iC tI F1 hr hb .nil pass0 hg hm (ha Wx tk) hdb he rfl)) ?_
  rintro D σ H ⟨ρ, S, W, E, R, h⟩
  unfold xRaise at h
  refine tA_ofS E R h fun ds S1 vs H1 W1 T1 E1 R1 r1 h1 => ?_
  match ds, r1, h1 with
  | [d], .cons (v := y) rd .nil, h1 =>
    refine ⟨by show 1 ≤ 1000; decide, fun a na => ⟨a, G.cls c, y, rfl, T, upd_same, fun dx hdx ne => ?_⟩⟩
    have hd1 : H1 dx = none := by rwa [upd_ne ne] at hdx
    refine ⟨rfl, dx, [("value", y)], upd_same, by rw [upd_ne ne, upd_same], hd1, ?_⟩
    have eH : upd (del (upd (upd (upd H1 a (exo a (G.cls c) none)) dx (exd dx [("value", y)])) a (exo a (G.cls c) (some dx))) a) dx (.xd [("value", y)]) = upd H1 dx (.xd [("value", y)]) := by
      funext b
      by_cases b1 : b = dx
      · rw [b1, upd_same, upd_same]
      · rw [upd_ne b1, upd_ne b1]
        by_cases b2 : b = a
        · rw [b2, del_same, na]
        · rw [del_ne b2, upd_ne b2, upd_ne b1, upd_ne b2]
    rw [eH]
    obtain ⟨T2, R2, L2'⟩ := R1.new hd1 (.xd [("value", y)])
    obtain ⟨W3, le3, T3, R3, e3⟩ := R2.frz T2 hd1 L2' upd_same
    exact h1 _ _ σ _ W3 T3 (E1.mono T3.le) R3 ⟨rfl, dx, y, rfl, e3, rd.mono le3⟩
  | [], .nil, h1 => exact h1.elim
  | _ :: _ :: _, .cons _ (.cons _ _), h1 => exact h1.elim
/-! ### an error that is caught -/
/-- the error (ec, ed) at a, its dict at dd -/
def sigE (G : Sig) (K : PySem.W.Frag) (a dd : Addr) (ec : Nat) (ed : D) : Sig := { G with
  er := fun b c d W => b = a ∧ c = ec ∧ d = ed ∧ D.low 0 ed = true ∧ ∃ v, W.H dd = some (.xd [("value", v)]) ∧ Rep K W ed v
  ermono := fun b c d W W' le h => by
    obtain ⟨h1, h2, h3, h4, v, h5, h6⟩ := h
    exact ⟨h1, h2, h3, h4, v, le.h _ _ h5, h6.mono le⟩
  ercut := fun b c d W W' e1 e2 e3 h => by
    obtain ⟨h1, h2, h3, h4, v, h5, h6⟩ := h
    exact ⟨h1, h2, h3, h4, v, by rw [← e1]; exact h5, h6.flat h4 e1 e2⟩ }
theorem CellOk.sig {G : Sig} {K : PySem.W.Frag} {W : Wd} {H : Hp} {b a dd : Addr} {ec : Nat} {ed : D} {c : Cell} : CellOk G K W H b c ↔ CellOk (sigE G K a dd ec ed) K W H b c := by
  cases c <;> exact Iff.rfl
/-- what the clause's suite may leave behind -/
def lowO (n : Nat) : Option D → Bool
  | none => true
  | some d => D.low n d
def sutE (i : Nat) : Option Out → Option Out
  | some (.nx ρ S) => if S.all (lowS S.length) = true ∧ ((ρ.set i none).all (lowO S.length)) = true then some (.nx (ρ.set i none) S) else none
  | some (.rt d S) => if S.all (lowS S.length) = true ∧ D.low S.length d = true then some (.rt d S) else none
  | _ => none
/-- try: body, except X as e (slot i): suite; ok: the classes that X takes -/
def xTry (i : Nat) (ok : Nat → Bool) (fb : ES) (fs : Er → ES) : ES := fun ρ S => match fb ρ S with
  | some (.er e ρ1 S1) => if ok e.1 = true ∧ D.low 0 e.2 = true then sutE i (fs e (ρ1.set i (some (.err e.1 e.2))) S1) else none
  | o => o
theorem Ctx.tr {X : Cx} (C : Ctx X) {pn : List (Addr × Obj)} {xe : Value → Shared → Prop} (h : PassesOwn (model X.prog X.w) X.A X.env xe) : Ctx (X.tr pn xe) := ⟨C.calm, h, C.grd, C.nd, C.un⟩
/-- the world forgets the error -/
theorem RS.forget {G : Sig} {K : PySem.W.Frag} {W : Wd} {S : Sto} {H : Hp} {a dd : Addr} {ec : Nat} {ed : D} (R : RS (sigE G K a dd ec ed) K W S H) (hS : S.all (lowS S.length) = true) : RS G K { W with E := fun _ => none } S H where
  fr := R.fr
  ob := fun b t d e => by
    obtain ⟨h1, o, h2, h3⟩ := R.ob b t d e
    exact ⟨h1, o, h2, G.cut _ _ _ _ W _ rfl rfl h3⟩
  len := R.len
  nd := R.nd
  ful := R.ful
  nob := R.nob
  cl := fun n c e => by
    obtain ⟨b, h1, h2, h3⟩ := R.cl n c e
    refine ⟨b, h1, h2, CellOk.cut (W := W) (W' := { W with E := fun _ => none }) (n := S.length) rfl rfl ?_ (CellOk.sig.mpr h3) ?_⟩
    · rw [← R.len, List.take_length]
    · exact List.all_eq_true.mp hS (some c) (List.mem_of_getElem? e)
  er := fun _ _ _ e => by cases e
theorem Rep.forget {K : PySem.W.Frag} {W : Wd} {n : Nat} {d : D} {v : V} (hn : W.as.length = n) (r : Rep K W d v) (h : D.low n d = true) : Rep K { W with E := fun _ => none } d v :=
  Rep.cut (W := W) (W' := { W with E := fun _ => none }) (n := n) rfl rfl (by rw [← hn, List.take_length]) r h
theorem gs_try {G : Sig} {X : Cx} {x n : Str} {i : Nat} {c : Value} {ok : Nat → Bool} {body suite : List Stmt} {b₀ : Stmt} {np pos pos' : Pos} {fb : ES} {fs : Er → ES} (Cc : Ctx X) (hno : ∀ a c d W, ¬ G.er a c d W) (hs : X.stack = X.env :: X.outer) (hf : X.env.frame = some X.env.locals) (hi : X.N[i]? = some n) (hln : X.env.kindOf n = some .local) (hc : Names X x c)
    (hok : ∀ k, ok k = true → PySem.W.exmOne X.K (.ref (G.cls k)) c = some true)
    (hb : ∀ (pn : List (Addr × Obj)) (xe : Value → Shared → Prop), PassesOwn (model X.prog X.w) X.A X.env xe → GB G (X.tr pn xe) body fb)
    (hsu : ∀ (a dd : Addr) (oe : Obj) (e : Er) (pn : List (Addr × Obj)), ok e.1 = true → Zc (.ref (G.cls e.1)) (some dd) oe → (∃ vs, oe.data = .fields vs) → GB (sigE G X.K a dd e.1 e.2) (X.suite a ((a, oe) :: pn)) (b₀ :: suite) (fs e)) :
    GS G X (.Try body [.ExceptHandler (some (.Name x np)) (some n) (b₀ :: suite) pos'] [] [] pos) (xTry i ok fb fs) := by
  intro Wx tk
  refine ps_imp (ps_try_as (Wout := Wx) hs hf Cc.nd hi hln hc tk (tb := fun W => sS G X.K W fb) (ts := fun a cls d => fun D σ H => ∃ (dd : Addr) (e : Er), ok e.1 = true ∧ cls = .ref (G.cls e.1) ∧ d = some dd ∧ sS (sigE G X.K a dd e.1 e.2) X.K (fun _ _ _ _ => False) (fs e) D σ H)
    (fun W pn xe t po => hb pn xe po W t) fun a oe cls d pn z hd => ?_) ?_
  · refine ⟨fun pins s σ H D I hr => ?_⟩
    obtain ⟨dd, e, he, rfl, rfl, hr⟩ := hr
    refine (hsu a dd oe e pn he z hd (fun _ _ _ _ => False) fun u s' xx => ?_).run pins s σ H D I hr
    obtain ⟨_, _, _, _, _, _, _, _, _, _, _, _, _, _, _, _, w⟩ := xx
    exact w
  · rintro D σ H ⟨ρ, S, W, E, R, h⟩
    refine ⟨ρ, S, W, E, R, ?_⟩
    unfold xTry at h
    generalize fb ρ S = o at h ⊢
    match o, h with
    | none, h => exact h.elim
    | some (.nx ρ1 S1), h => exact h
    | some (.bk ρ1 S1), h => exact h
    | some (.ct ρ1 S1), h => exact h
    | some (.rt d S1), h => exact h
    | some (.er e ρ1 S1), h =>
      dsimp only at h
      split at h
      · rename_i cc
        rintro cls dx σ' H' W' T1 E1 R1 ⟨rfl, ae, v, rfl, e3, e4⟩
        refine ⟨true, hok _ cc.1, fun _ a na => ⟨ae, e, cc.1, rfl, rfl, ?_⟩, fun z => by cases z⟩
        have W'E : ∀ b, W'.E b = none := fun b => by
          cases q : W'.E b with
          | none => rfl
          | some p => exact absurd (R1.er b p.1 p.2 q) (hno _ _ _ _)
        have le : W'.le { W' with E := fun b => if b = a then some (e.1, e.2) else none } := ⟨Same.refl _, fun _ _ h => h, List.prefix_refl _, fun b p q => by rw [W'E b] at q; cases q⟩
        refine ⟨ρ1.set i (some (.err e.1 e.2)), S1, { W' with E := fun b => if b = a then some (e.1, e.2) else none }, (E1.mono le).set (.err (if_pos rfl)) i, ?_, ?_⟩
        · exact ⟨R1.fr, fun b t d q => by
            obtain ⟨h1, o', h2, h3⟩ := R1.ob b t d q
            exact ⟨h1, o', h2, G.mono _ _ _ _ _ _ le h3⟩, R1.len, R1.nd, R1.ful, R1.nob, fun m c' q => by
            obtain ⟨b, h1, h2, h3⟩ := R1.cl m c' q
            exact ⟨b, h1, h2, CellOk.sig.mp (h3.mono le rfl)⟩, fun b c' d q => by
            have q' : (if b = a then some (e.1, e.2) else none) = some (c', d) := q
            split at q'
            · rename_i hba
              cases q'
              exact ⟨hba, rfl, rfl, cc.2, v, e3, e4.mono le⟩
            · cases q'⟩
        · have WE : ∀ {W3 : Wd} {H3 : Hp}, Stp { W' with E := fun b => if b = a then some (e.1, e.2) else none } H' W3 H3 → Stp W H { W3 with E := fun _ => none } H3 := fun {W3 H3} T3 => by
            have t := T1.trans (Stp.trans ⟨le, fun b o h l => ⟨h, l.h, l.b, l.a⟩⟩ T3)
            exact ⟨⟨t.le.h, t.le.b, t.le.a, fun b p q => absurd (R.er b p.1 p.2 q) (hno _ _ _ _)⟩, fun b o h l => by
              obtain ⟨h1, h2⟩ := t.lone b o h l
              exact ⟨h1, h2.h, h2.b, h2.a⟩⟩
          unfold sutE at h
          generalize fs e (ρ1.set i (some (.err e.1 e.2))) S1 = o' at h ⊢
          match o', h with
          | none, h => exact h.elim
          | some (.bk _ _), h => exact h.elim
          | some (.ct _ _), h => exact h.elim
          | some (.er _ _ _), h => exact h.elim
          | some (.rt d S2), h =>
            dsimp only at h
            split at h
            · rename_i c2
              intro v2 H2 W2 T2 R2 r2
              exact h v2 H2 _ (WE T2) (R2.forget c2.1) (r2.forget R2.len c2.2)
            · exact h.elim
          | some (.nx ρ2 S2), h =>
            dsimp only at h
            split at h
            · rename_i c2
              intro σ2 H2 W2 T2 E2 R2
              refine h (σ2.set i none) H2 _ (WE T2) ?_ (R2.forget c2.1)
              obtain ⟨x1, x2⟩ := E2.unset i none
              refine ⟨x1, fun j d q => ?_⟩
              obtain ⟨v2, y1, y2⟩ := x2 j d q
              exact ⟨v2, y1, y2.forget R2.len (List.all_eq_true.mp c2.2 (some d) (List.mem_of_getElem? q))⟩
            · exact h.elim
      · exact h.elim
end EV

/-! E20: e.value and isinstance(e, ..) of a caught error. -/
namespace EV
open PySem PySem.Spec PyProof.Rows L2
/-- what the text says of an error's class, for questions about its instances -/
structure ErrC (K : PySem.W.Frag) (C : Addr) : Prop where
  cl : (PySem.W.clsIn K C).isSome = true
  ga : PySem.W.findIn K (.ref C) "__getattribute__" = some (some (.builtin "BaseException.__getattribute__"))
  gg : PySem.W.findIn K (.ref C) "__getattr__" = some none
  sub : PySem.W.subIn K (.ref C) (.type "BaseException") = some true
  hd : PySem.W.hasDictIn K C = true
  ha : PySem.W.findIn K (.ref C) "__class__" = some (some (.builtin "object.__class__"))
  hn : PySem.W.specialIn K (.builtin "object.__class__") "__get__" = some (some (.builtin "getset_descriptor.__get__"))
  ht : PySem.W.takesIn K (.builtin "object.__class__") = some true
  hm : PySem.W.mroIn K C (.type "object") = some true
  nv : PySem.W.findIn K (.ref C) "value" = some none
def xErV (i : Nat) : EX := fun ρ S => match ρ[i]? with
  | some (some (.err _ d)) => some (.ok d, S)
  | _ => none
def xIsE (i : Nat) (f : Nat → Bool) : EX := fun ρ S => match ρ[i]? with
  | some (some (.err c _)) => some (.ok (.bl (f c)), S)
  | _ => none
section
variable {G : Sig} {X : Cx} {a dd : Addr} {ec : Nat} {ed : D} {oe : Obj} {pn : List (Addr × Obj)} {i : Nat} {n : Str} {p pos p0 pt : Pos}
theorem ge_errv (Z : ErrC X.K (G.cls ec)) (hz : Zc (.ref (G.cls ec)) (some dd) oe) (hf : ∃ vs, oe.data = .fields vs) (hi : X.N[i]? = some n) (hv : Vis X.env.scope n) (hd : (n == ("__debug__" : Str)) = false := by decide) (hcd : (n == ("__classdict__" : Str)) = false := by decide)
    (hb : attributeBase (.Name n p) "value" X.env (eval (.Name n p) X.env) = eval (.Name n p) X.env := by rfl) : GE (sigE G X.K a dd ec ed) (X.suite a ((a, oe) :: pn)) (.Attribute (.Name n p) "value" pos) (xErV i) := by
  intro Wx tk
  refine pe_imp (pe_xf (X := X) (a := a) (C := G.cls ec) (cls := .ref (G.cls ec)) (d := some dd) ⟨Z.ga, Z.gg, Z.sub, Z.hd⟩ Z.nv hz hf (pe_var (X := X.suite a ((a, oe) :: pn)) (i := i) hi hv hd hcd) hb) ?_
  rintro σ H Q ⟨ρ, S, W, E, R, h⟩
  unfold xErV at h
  split at h
  · rename_i c d e1
    obtain ⟨v, q1, q2⟩ := E.2 i _ e1
    cases q2 with
    | @err b _ _ hE =>
      obtain ⟨rfl, rfl, rfl, _, v0, h1, h2⟩ := R.er b c d hE
      exact ⟨_, q1, rfl, rfl, dd, _, v0, rfl, R.fr _ _ h1, rfl, h v0 H W (.refl _ _) R h2⟩
  · exact h.elim
/-- isinstance of the error that the suite holds -/
def rIsX (K : PySem.W.Frag) (C a dd : Addr) : List V → Hp → VK → Prop := fun xs H Q => ∃ (fs : List (Str × V)) (c : V) (b : Bool), H dd = some (.xd fs) ∧ xs = [.ref a, c] ∧ Q (.bl b) H ∧ ((∃ cv, (∀ u, RelV c u → u = cv) ∧ PySem.W.kitOne K (.ref C) cv = some b) ∨
  ∃ (q : Addr) (cs : List V) (cvs : List Value), c = .ref q ∧ H q = some (.tup cs) ∧ (∀ us, Vals cs us → us = cvs) ∧ PySem.W.kitAny K (.ref C) cvs = some b)
theorem call_isX {C : Addr} (Z : ErrC X.K C) (hz : Zc (.ref C) (some dd) oe) (hf : ∃ vs, oe.data = .fields vs) : CallR (X.suite a ((a, oe) :: pn)) (.builtin "isinstance") (rIsX X.K C a dd) := by
  intro pins s σ H xs us Q I r h
  obtain ⟨fs, c, b, hdd, rfl, q, h⟩ := h
  obtain ⟨ha, _⟩ := I.pin (a, oe) (List.mem_append_left _ List.mem_cons_self)
  obtain ⟨vs, hd⟩ := hf
  have hx : ObjOk X.prog X.w H s.heap dd (.xd fs) := I.hok dd _ hdd
  obtain ⟨mA, hns, hr⟩ := hx
  obtain ⟨od, ho, hl⟩ := lookIn_ns hns
  have J : PySem.W.InstAt s.heap a oe C (some od) := ⟨ha, hz.1, by unfold PySem.W.notCls; rw [hd] <;> rfl, by rw [hz.2]; exact ho⟩
  have kx := PySem.W.kitx_exc (K := X.K) (x := a) (ox := oe) (od := some od) Z.cl Z.ga Z.gg Z.sub Z.ha Z.hn Z.ht Z.hm
  cases r with
  | cons rx rr =>
    cases rr with
    | cons rt rr =>
      cases rr
      cases rx
      rcases h with ⟨cv, hcv, e⟩ | ⟨tp, cs, cvs, rfl, htp, hcv, e⟩
      · have ec := hcv _ rt
        subst ec
        exact PySem.W.kia_one kx I.kIn J e (fun z => nomatch z) fun tk => ⟨.bl b, H, I.kept (t' := tk) fun _ _ z => z, rfl, q⟩
      · cases rt
        obtain ⟨its, rv, ⟨o, h1, h2, m, h3⟩, _⟩ := I.tuple (a := tp) (xs := cs) (.inl (.inl htp))
        have ec := hcv _ rv
        subst ec
        obtain ⟨oc, od', oda, osl⟩ := o
        dsimp only at h2 h3
        subst h2 h3
        exact PySem.W.kia_tup kx I.kIn J h1 e (fun z => nomatch z) fun tk => ⟨.bl b, H, I.kept (t' := tk) fun _ _ z => z, rfl, q⟩
def tVs (cs : List V) : TA := fun _ H Q => Q cs H
theorem pa_vnil {Y : Cx} : PA Y [] (tVs []) := pa_nil
theorem pa_vcons {Y : Cx} {e : Expr} {es : List Expr} {v : V} {vs : List V} (h : PE Y e (tC v)) (r : PA Y es (tVs vs)) (hs : starEach (e :: es) Y.env = (false, eval e Y.env) :: starEach es Y.env := by rfl) : PA Y (e :: es) (tVs (v :: vs)) := pa_cons h r hs
theorem ge_isE {f : Nat → Bool} {c : Expr} {v : V} {cv : Value} (Z : ErrC X.K (G.cls ec)) (hz : Zc (.ref (G.cls ec)) (some dd) oe) (hf : ∃ vs, oe.data = .fields vs) (hg : Gl X "isinstance") (hm : X.mg "isinstance" = none) (hi : X.N[i]? = some n) (hv : Vis X.env.scope n)
    (hc : PE (X.suite a ((a, oe) :: pn)) c (tC v)) (hcv : ∀ u, RelV v u → u = cv) (hk : PySem.W.kitOne X.K (.ref (G.cls ec)) cv = some (f ec)) (hd : (n == ("__debug__" : Str)) = false := by decide) (hcd : (n == ("__classdict__" : Str)) = false := by decide)
    (h1 : starEach [.Name n p, c] X.env = (false, eval (.Name n p) X.env) :: starEach [c] X.env := by rfl) (h2 : starEach [c] X.env = (false, eval c X.env) :: starEach [] X.env := by rfl) (hpl : (backTo pos (starEach [c] X.env)).any (·.1) = false := by rfl) :
    GE (sigE G X.K a dd ec ed) (X.suite a ((a, oe) :: pn)) (.Call (.Name "isinstance" p0) [.Name n p, c] [] pos) (xIsE i f) := by
  intro Wx tk
  refine pe_imp (pe_callB (X := X.suite a ((a, oe) :: pn)) (call_isX Z hz hf) hg hm (by decide +kernel) (pa_cons (pe_var (X := X.suite a ((a, oe) :: pn)) (i := i) hi hv hd hcd) (pa_cons hc pa_nil h2) h1) (by decide) (by decide) h1 hpl) ?_
  rintro σ H Q ⟨ρ, S, W, E, R, h⟩
  unfold xIsE at h
  split at h
  · rename_i c' d e1
    obtain ⟨u, q1, q2⟩ := E.2 i _ e1
    cases q2 with
    | @err b _ _ hE =>
      obtain ⟨rfl, rfl, rfl, _, v0, g1, g2⟩ := R.er b c' d hE
      exact ⟨_, q1, _, _, _, R.fr _ _ g1, rfl, h _ H W (.refl _ _) R (.bl _), .inl ⟨cv, hcv, hk⟩⟩
  · exact h.elim
theorem ge_isT {f : Nat → Bool} {es : List Expr} {tx : Nat} {cs : List V} {cvs : List Value} (Z : ErrC X.K (G.cls ec)) (hz : Zc (.ref (G.cls ec)) (some dd) oe) (hf : ∃ vs, oe.data = .fields vs) (hg : Gl X "isinstance") (hm : X.mg "isinstance" = none) (hi : X.N[i]? = some n) (hv : Vis X.env.scope n)
    (hc : PA (X.suite a ((a, oe) :: pn)) es (tVs cs)) (hl : cs.length ≤ 1000) (hcv : ∀ us, Vals cs us → us = cvs) (hk : PySem.W.kitAny X.K (.ref (G.cls ec)) cvs = some (f ec)) (hd : (n == ("__debug__" : Str)) = false := by decide) (hcd : (n == ("__classdict__" : Str)) = false := by decide)
    (h1 : starEach [.Name n p, .Tuple es tx pt] X.env = (false, eval (.Name n p) X.env) :: starEach [.Tuple es tx pt] X.env := by rfl) (h2 : starEach [.Tuple es tx pt] X.env = (false, eval (.Tuple es tx pt) X.env) :: starEach [] X.env := by rfl)
    (hpl : (backTo pos (starEach [.Tuple es tx pt] X.env)).any (·.1) = false := by rfl) :
    GE (sigE G X.K a dd ec ed) (X.suite a ((a, oe) :: pn)) (.Call (.Name "isinstance" p0) [.Name n p, .Tuple es tx pt] [] pos) (xIsE i f) := by
  intro Wx tk
  refine pe_imp (pe_callB (X := X.suite a ((a, oe) :: pn)) (call_isX Z hz hf) hg hm (by decide +kernel) (pa_cons (pe_var (X := X.suite a ((a, oe) :: pn)) (i := i) hi hv hd hcd) (pa_cons (pe_tup hc) pa_nil h2) h1) (by decide) (by decide) h1 hpl) ?_
  rintro σ H Q ⟨ρ, S, W, E, R, h⟩
  unfold xIsE at h
  split at h
  · rename_i c' d e1
    obtain ⟨u, q1, q2⟩ := E.2 i _ e1
    cases q2 with
    | @err b _ _ hE =>
      obtain ⟨rfl, rfl, rfl, _, v0, g1, g2⟩ := R.er b c' d hE
      refine ⟨.ref b, q1, by rw [sizeLine_eq]; omega, fun q hq => ?_⟩
      obtain ⟨T2, R2, _⟩ := R.new hq (.tup cs)
      have g3 := R.fr _ _ g1
      have g4 : upd H q (.tup cs) dd = some (.xd [("value", v0)]) := by
        rw [upd_ne (ne_of_none g3 hq)]
        exact g3
      exact ⟨[("value", v0)], .ref q, f c', g4, rfl, h _ _ W T2 R2 (.bl _), .inr ⟨q, cs, cvs, rfl, upd_same, hcv, hk⟩⟩
  · exact h.elim
end
end EV

/-! E21: what the text says of the error classes, in one question; texts times and more; assignments in a clause's suite. -/
namespace EV
open PySem PySem.Spec PyProof.Rows L2
/-- one of the classes that a clause takes -/
def okL (l : List Nat) (k : Nat) : Bool := l.contains k
theorem okL_mem {l : List Nat} {k : Nat} (h : okL l k = true) : k ∈ l := by
  unfold okL at h
  simpa using h
structure ErrF (K : PySem.W.Frag) (C D fI : Addr) : Prop where
  ini : IniC K C D
  q : ErrC K C
  iC : PySem.W.findIn K (.ref C) "__init__" = some (some (.ref fI))
  tI : PySem.W.typeIn K (.ref fI) = some (.type "function")
  ex : PySem.W.exmOne K (.ref C) (.ref D) = some true
def oexB (K : PySem.W.Frag) (C : Addr) : Bool := match K.lookup C with
  | some ⟨.type "type", _, .cls cd, sl⟩ => (match cd.mro, sl.toList with
    | .ref C2 :: bm, [_, _, _, _, some (.builtin n), _] => decide (C2 = C) && (decide (n = "ValueError.__new__") && (!cd.hasDel && (cd.hasDict && PySem.HandSPX.refsVE bm)))
    | _, _ => false)
  | _ => false
theorem oexB_ok {K : PySem.W.Frag} {C : Addr} (h : oexB K C = true) : ∃ nm q N bs bm sn sub ab col dd k0 k1 k2 k3 k5, K.lookup C = some (excClassObj nm q C N bs bm true sn sub ab col dd k0 k1 k2 k3 k5 "ValueError.__new__") ∧ PySem.HandSPX.refsVE bm = true := by
  unfold oexB at h
  split at h
  · rename_i dd cd sl ho
    split at h
    · rename_i C2 bm k0 k1 k2 k3 n k5 hm hs
      simp only [Bool.and_eq_true, Bool.not_eq_true', decide_eq_true_eq] at h
      obtain ⟨e1, e2, e3, e4, e5⟩ := h
      subst e1 e2
      obtain ⟨nm, bs, mro, ns, qn, hd, sn, sb, ab, col, del⟩ := cd
      dsimp only at hm e3 e4
      subst hm e3 e4
      obtain ⟨l⟩ := sl
      dsimp only at hs
      subst hs
      exact ⟨nm, qn, ns, bs, bm, sn, sb, ab, col, dd, k0, k1, k2, k3, k5, ho, e5⟩
    · cases h
  · cases h
def errB (K : PySem.W.Frag) (C D fI : Addr) : Bool := oexB K C && (decide (PySem.W.findIn K (.ref C) "__setattr__" = some (some (.builtin "object.__setattr__"))) && (decide (PySem.W.subIn K (.ref C) (.type "BaseException") = some true) && (decide (PySem.W.typeIn K (.ref C) = some (.type "type")) && (PySem.W.keepIn K (.ref C) && (decide (PySem.W.mroIn K C (.ref D) = some true) &&
  (decide (PySem.W.ks_superIn K C D "__init__" = some (some (.builtin "ValueError.__init__"))) && (decide (PySem.W.subIn K (.ref C) (.type "ValueError") = some true) && (PySem.W.excInitIn K C [.type "ValueError", .type "Exception", .type "BaseException", .type "object"] "ValueError.__new__" && (decide (PySem.W.findIn K (.ref C) "value" = some none) &&
  (decide (PySem.W.nsIn K PySem.cStatics "thirdparty.any" = some none) && ((PySem.W.clsIn K C).isSome && (decide (PySem.W.findIn K (.ref C) "__getattribute__" = some (some (.builtin "BaseException.__getattribute__"))) && (decide (PySem.W.findIn K (.ref C) "__getattr__" = some none) && (PySem.W.hasDictIn K C &&
  (decide (PySem.W.findIn K (.ref C) "__class__" = some (some (.builtin "object.__class__"))) && (decide (PySem.W.specialIn K (.builtin "object.__class__") "__get__" = some (some (.builtin "getset_descriptor.__get__"))) && (decide (PySem.W.takesIn K (.builtin "object.__class__") = some true) && (decide (PySem.W.mroIn K C (.type "object") = some true) &&
  (decide (PySem.W.findIn K (.ref C) "__init__" = some (some (.ref fI))) && (decide (PySem.W.typeIn K (.ref fI) = some (.type "function")) && decide (PySem.W.exmOne K (.ref C) (.ref D) = some true)))))))))))))))))))))
theorem errB_ok {K : PySem.W.Frag} {C D fI : Addr} (h : errB K C D fI = true) : ErrF K C D fI := by
  unfold errB at h
  simp only [Bool.and_eq_true, decide_eq_true_eq] at h
  obtain ⟨a1, a2, a3, a4, a5, a6, a7, a8, a9, b1, b2, b3, b4, b5, b6, b7, b8, b9, c1, c2, c3, c4⟩ := h
  exact ⟨⟨⟨oexB_ok a1, a2, a3, a4, a5⟩, a6, a7, a8, a9, b1, b2⟩, ⟨b3, b4, b5, a3, b6, b7, b8, b9, c1, b1⟩, c2, c3, c4⟩
section
variable {G : Sig} {X : Cx}
theorem gs_raiseI {c k : Nat} {D0 fI : Addr} {x : Str} {e : Expr} {fr : EA} {p pos pos' : Pos} (Cc : Ctx X) (T : ErrF X.K (G.cls c) D0 fI) (F1 : ∃ fd, FnOk X.prog X.w X.K X.mg X.base CX0 k fI fd ["self", "value"] (spIni X.K D0) ∧ Binds X.K fd ["self", "value"] []) (hr : Room (k + 1) X.A)
    (hg : Gl X x) (hm : X.mg x = some (.ref (G.cls c))) (ha : GA G X [e] fr) (hdb : (x == ("__debug__" : Str)) = false := by decide) (he : starEach [e] X.env = (false, eval e X.env) :: starEach [] X.env := by rfl) :
    GS G X (.Raise (some (.Call (.Name x p) [e] [] pos)) none pos') (xRaise c fr) := by
  obtain ⟨fd, F2, hb⟩ := F1
  exact gs_raise Cc T.ini F2 hb hr T.iC T.tI hg hm ha hdb he
variable {e : Expr} {f : EX} {pos : Pos}
theorem gs_setN {i : Nat} {x : Str} {pos' : Pos} (nd : X.N.Nodup) (hi : X.N[i]? = some x) (hx : Loc X.env.scope x) (he : GE G X e f) (hs : swapsWith e (some (.Name x pos')) pos.line X.env = pure false := by rfl)
    (hf : X.fn x = true ∨ X.env.scope.names.lookup x = some .local := by first | exact .inl rfl | exact .inr rfl | assumption) : GS G X (.Assign [.Name x pos'] e pos) (xSet i f) := by
  intro Wx tk
  refine ps_imp (ps_set nd hi hx (he Wx tk) hs hf) ?_
  rintro D σ H ⟨ρ, S, W, E, R, h⟩
  exact tE_ofS E R h fun d S1 v H1 W1 T1 E1 R1 r1 h1 => h1 _ H1 W1 (.refl _ _) (E1.set r1 i) R1
/-! ### texts -/
def gMulS : D → D → Sto → Res D
  | .str x, .int n, S => if n = 1 then some (.ok (.str x), S) else if n = 0 then some (.ok (.str Str.empty), S) else none
  | _, _, _ => none
def rMulS : R2 := fun x y H Q => ∃ (s : Str) (n : Int), x = .str s ∧ y = .int n ∧ ((n = 1 ∧ Q (.str s) H) ∨ (n = 0 ∧ Q (.str Str.empty) H))
theorem op_mulS : OpR X (binaryOp .Mult) rMulS := by
  intro pins s σ H x y v u Q I rx ry h
  obtain ⟨z, n, rfl, rfl, h⟩ := h
  obtain ⟨t, rfl⟩ := rx
  obtain ⟨t', rfl⟩ := ry
  rcases h with ⟨rfl, q⟩ | ⟨rfl, q⟩
  · exact PySem.SB.mul ⟨by decide, fun _ h => absurd h (by simp), fun _ h => absurd h (by simp)⟩ fun t2 k => ⟨.str z, H, I.tok _, ⟨_, rfl⟩, q⟩
  · exact PySem.SB.mul ⟨by decide, fun h => absurd (show (0 : Int) < 1 by decide) h, fun h => absurd (show (0 : Int) < 1 by decide) h⟩ fun t2 k => ⟨.str Str.empty, H, I.tok _, ⟨_, rfl⟩, q⟩
theorem ok_mulS : OpOk G X rMulS gMulS := by
  intro Wx σ Q W S H x y u v R rx ry h
  unfold gMulS at h
  split at h
  · cases rx
    cases ry
    split at h
    · rename_i c
      exact ⟨_, _, rfl, rfl, .inl ⟨c, h _ H W (.refl _ _) R (.str _)⟩⟩
    · split at h
      · rename_i c
        exact ⟨_, _, rfl, rfl, .inr ⟨c, h _ H W (.refl _ _) R (.str _)⟩⟩
      · exact h.elim
  · exact h.elim
def gAddS : D → D → Sto → Res D
  | .str x, .str y, S => if x.length + y.length ≤ 16000000 then some (.ok (.str (x ++ y)), S) else none
  | _, _, _ => none
theorem ok_addS : OpOk G X (fun x y H Q => ∃ i j, x = .str i ∧ y = .str j ∧ i.length + j.length ≤ sizeLine ∧ Q (.str (i ++ j)) H) gAddS := by
  intro Wx σ Q W S H x y u v R rx ry h
  unfold gAddS at h
  split at h
  · cases rx
    cases ry
    split at h
    · rename_i c
      exact ⟨_, _, rfl, rfl, Nat.le_trans c cap_le, h _ H W (.refl _ _) R (.str _)⟩
    · exact h.elim
  · exact h.elim
end
end EV

/-! E22: objects made and methods called with keywords alone. -/
namespace EV
open PySem PySem.Spec PyProof.Rows L2
section
variable {G : Sig} {X : Cx} {k n : Nat} {f C : Addr} {fd : FuncData} {ps ks : List Str} {pm : List Nat} {sp : Sp} {fn : Fn} {Wx : WX} {x m : Str} {p pos apos : Pos} {e o : Expr} {es : List Expr} {kws : List Keyword} {fr : EA} {fo : EX}
/-- keywords behind the object itself -/
def KBs (K : PySem.W.Frag) (fd : FuncData) (ps ks : List Str) (pm : List Nat) : Prop := ∀ (s : Shared) (u : Value) (ws : List Value), K.In s.heap → ws.length = ks.length → (u :: gxs pm ws).length = ps.length → BindsTo s fd ⟨[u], ks.zip ws⟩ (ps.zip (u :: gxs pm ws))
theorem _root_.L2.Fun.kbs {K : PySem.W.Frag} {x qual : Str} {st : Stmt} {f : Addr} {fd : FuncData} {ps ks : List Str} {pm : List Nat} (F : Fun K x qual st f fd)
    (h : ∀ (kV doc pmv : Value) (an : Option Addr) (cdv ct : Value) (u : Value) (ws : List Value), ws.length = ks.length → bindArgs (PySem.W.fnOf x qual (defArgs st) (defBody st) (defScope st) .none kV doc pmv an cdv ct) ⟨[u], ks.zip ws⟩ = pure (ps.zip (u :: gxs pm ws))) : KBs K fd ps ks pm := by
  obtain ⟨oc, od, kV, doc, pmv, an, cdv, ct, osl, rfl, lk, hcd⟩ := F.ex
  exact fun s u ws _ hl _ => .of_eq (h kV doc pmv an cdv ct u ws hl)
theorem ge_mkOK {c t : Nat} {conv : List (Nat × D) → Option D} (hconv : ∀ fs d, conv fs = some d → ∀ W a dx fv, RepN G X.K W fs fv → G.inv t d a (.ins (G.cls c) dx fv) W)
    (Cc : Ctx X) (M : Mk X.K (G.cls c) f) (F : FG X.prog X.w X.K X.mg X.base k f fd ps (spG G X.K (n + 1) fn)) (hr : Room (k + 1) X.A) (hg : Gl X x) (hm : X.mg x = some (.ref (G.cls c))) (hb : KBs X.K fd ps ks pm)
    (hkw : GK G X kws fr) (hall : (backToKw pos (keywordEach kws X.env)).all (·.1.isSome) = true := by rfl) (hks : (backToKw pos (keywordEach kws X.env)).filterMap (·.1) = ks := by rfl)
    (hdb : (x == ("__debug__" : Str)) = false := by decide) (hpl : ((backTo pos (starEach [] X.env)).any (·.1) || (backToKw pos (keywordEach kws X.env)).any (·.1.isNone)) = false := by rfl) :
    GE G X (.Call (.Name x p) [] kws pos) (xCallK n ks.length pm (mkO c t fn conv) fr) := by
  intro Wx tk
  refine ⟨fun pins s σ H Q I h => wpAny_Call_Name_kw (ld_glob I hg hm ?_ hdb)⟩
  obtain ⟨ρ, S, W, E, R, h⟩ := h
  have h' := tA_of (Q' := fun vs H1 => vs.length = ks.length ∧ ∀ x dx, H1 x = none → H1 dx = none → dx ≠ x → spG G X.K (n + 1) fn (.ref x :: gxs pm vs) (upd (upd H1 dx (.own x)) x (.ins (G.cls c) dx [])) (fun v H2 => v = .non ∧ Q (.ref x) H2) (WE Wx σ)) pkE E R h fun ds S1 vs H1 W1 T1 E1 R1 r1 h1 => by
    split at h1
    · rename_i hl
      refine ⟨by rw [← r1.length]; exact hl.1, ?_⟩
      intro x dx hx hdx ne
      obtain ⟨W3, T3, R3, e3, r3⟩ := made (c := c) R1 (r1.gxs pm) hx hdx ne
      refine ⟨_, _, W3, r3, by simp [hl.2], R3, ?_⟩
      unfold mkO at h1
      generalize fn (.cell S1.length :: gxs pm ds) (S1 ++ [some (.ins c [])]) = z at h1 ⊢
      match z, h1 with
      | none, h1 => exact h1.elim
      | some (.error e, S'), h1 =>
        dsimp only at h1
        split at h1
        · rename_i cc
          rintro cls dx' H' W' T' R' ⟨e1, a, v, e2, e3, e4⟩
          obtain ⟨W2, T2, R2, hr2, _, _, hH⟩ := R'.trunc (T3.trans T') R1.len cc.1 cc.2.1
          exact h1 cls dx' H' W2 T2 R2 ⟨e1, a, v, e2, by rw [hH]; exact e3, hr2 e.2 v e4 cc.2.2⟩
        · exact h1.elim
      | some (.ok .non, S'), h1 =>
        intro v H' W' T' R' r'
        cases r'
        refine ⟨rfl, ?_⟩
        dsimp only at h1
        split at h1
        · rename_i c' fs q
          split at h1
          · rename_i cc
            generalize ed : conv fs = od at h1
            match od, h1 with
            | none, h1 => exact h1.elim
            | some d, h1 =>
              obtain ⟨ec, c2, c3⟩ := cc
              rw [ec] at q
              have hlen : S1.length ≤ S'.length := Nat.le_of_lt (List.getElem?_eq_some_iff.mp q).1
              obtain ⟨a', z1, z0, dx', fv, z3, z4⟩ := R'.cl _ _ q
              rw [T'.le.at e3] at z1
              cases z1
              obtain ⟨W2, T2, R2, hr2, hln, hrn, _⟩ := R'.trunc (T3.trans T') R1.len hlen c2
              have L := hln _ _ (Nat.le_refl _) (T'.le.at e3) z0
              obtain ⟨W4, le4, T4, R4, e4⟩ := R2.newtag T2 hx L z3 (hconv fs d ed W2 _ _ _ (hrn fs fv z4 c3))
              exact h1 _ H' W4 T4 R4 (.obj e4)
          · exact h1.elim
        · exact h1.elim
      | some (.ok (.bl _), S'), h1 => exact h1.elim
      | some (.ok (.int _), S'), h1 => exact h1.elim
      | some (.ok (.str _), S'), h1 => exact h1.elim
      | some (.ok (.tup _), S'), h1 => exact h1.elim
      | some (.ok (.lst _), S'), h1 => exact h1.elim
      | some (.ok (.scr _), S'), h1 => exact h1.elim
      | some (.ok (.cell _), S'), h1 => exact h1.elim
      | some (.ok (.obj _ _), S'), h1 => exact h1.elim
    · exact h1.elim
  refine PySem.W.callWith_KW0 (h₀ := X.base) (first := []) I.ok.mod.kin M.kp hall
    (thn ((hkw Wx tk).run pos pins s σ H _ I h') fun ws s1 ⟨vs, H1, I1, r, hl, q⟩ => ⟨I1.kIn, ?_⟩) hpl
  rw [hks]
  have hq := q (s1.heap.objs.size + 1) s1.heap.objs.size (I1.hok.fresh (Nat.le_succ _)) (I1.hok.fresh (Nat.le_refl _)) (Nat.ne_of_lt (Nat.lt_succ_self _))
  have J := Inv.made (C := G.cls c) I1
  have r2 : Vals (gxs pm vs) (gxs pm ws) := valsGxs r pm
  have rr : Vals (V.ref (s1.heap.objs.size + 1) :: gxs pm vs) (Value.ref (s1.heap.objs.size + 1) :: gxs pm ws) := .cons rfl r2
  have hps : (Value.ref (s1.heap.objs.size + 1) :: gxs pm ws).length = ps.length := by
    rw [← rr.length]
    exact F.len _ _ _ _ hq
  have bb := hb { s1 with heap := (s1.heap.push PySem.W.emptyDict).push (PySem.W.instObj (G.cls c) s1.heap.objs.size) } (Value.ref (s1.heap.objs.size + 1)) ws J.kIn (by rw [← r.length]; exact hl) hps
  refine wpAny_call (make_map (f := f) I1.kIn M.makes M.init (beq_iff_eq.mp M.fn)
    (codeAny_mono (F.run _ X.stack _ _ ⟨[Value.ref (s1.heap.objs.size + 1)], ks.zip ws⟩ (Value.ref (s1.heap.objs.size + 1) :: gxs pm ws) _ _ (WE Wx σ) (hr.make (G.cls c) [] (ks.zip ws)) Cc.grd (J.env0.make (G.cls c) [] (ks.zip ws)) bb rr hq) fun z s' hz => ?_))
  match z, hz with
  | .error er, hz => exact passAt tk σ pins _ _ er s' J hz
  | .ok (.ret u), hz =>
    obtain ⟨v, H', I3, rv, ev, q3⟩ := J.after hz
    subst ev
    exact ⟨rv, ⟨V.ref (s1.heap.objs.size + 1), H', I3, rfl, q3⟩⟩

variable {tc : Nat → Option Nat} {at_ : Nat → Nat → D → Option D}
def xMethK (tc : Nat → Option Nat) (c n m : Nat) (pm : List Nat) (fn : Fn) (fo : EX) (fr : EA) : EX := fun ρ S => bnd (fo ρ S) fun d S1 => if clsD tc S1 d = some c then bnd (fr ρ S1) fun ds S2 => if ds.length = m ∧ (gxs pm ds).length + 1 = n then fn (d :: gxs pm ds) S2 else none else none
theorem ge_methK {c : Nat} {pl : Sem Bool} (Cc : Ctx X) (TG : Tags G X.K tc at_) (he : GE G X o fo) (cl : Cls X.K (G.cls c)) (hm : Meth X.K (G.cls c) m f) (hn : ∀ i, i < G.nf → G.fname i ≠ m) (F : FG X.prog X.w X.K X.mg X.base k f fd ps (spG G X.K n fn)) (hr : Room k X.A) (hb : KBs X.K fd ps ks pm)
    (hkw : GK G X kws fr) (hall : (backToKw pos (keywordEach kws X.env)).all (·.1.isSome) = true := by rfl) (hks : (backToKw pos (keywordEach kws X.env)).filterMap (·.1) = ks := by rfl)
    (hpl : ((backTo pos (starEach [] X.env)).any (·.1) || (backToKw pos (keywordEach kws X.env)).any (·.1.isNone)) = false := by rfl)
    (ht : eval (.Call (.Attribute o m apos) [] kws pos) X.env = (do
      let ov ← eval o X.env
      standAt apos.atName
      let (f, first) ← holding [ov] (getMethod ov m pl)
      callWith pos f first (backTo pos (starEach [] X.env)) (backToKw pos (keywordEach kws X.env))) := by rfl) :
    GE G X (.Call (.Attribute o m apos) [] kws pos) (xMethK tc c n ks.length pm fn fo fr) := by
  intro Wx tk
  refine ⟨fun pins s σ H Q I h => ?_⟩
  obtain ⟨ρ, S, W, E, R, h⟩ := h
  have h' : tE G X.K Wx fo σ H (fun x H1 => ∃ a dx fv, x = .ref a ∧ H1 a = some (.ins (G.cls c) dx fv) ∧ fv.lookup m = none ∧ tA G X.K Wx fr σ H1 (fun vs H2 => vs.length = ks.length ∧ spG G X.K n fn (x :: gxs pm vs) H2 Q (WE Wx σ))) :=
    tE_of pkE E R h fun d S1 v H1 W1 T1 E1 R1 r1 h1 => by
      split at h1
      · rename_i ec
        obtain ⟨a, dx, fv, rfl, e1, e2⟩ := RS.cls TG R1 r1 ec
        refine ⟨a, dx, fv, rfl, e1, e2 m hn, ?_⟩
        refine tA_of pkE E1 R1 h1 fun ds S2 vs H2 W2 T2 E2 R2 r2 h2 => ?_
        split at h2
        · rename_i hl
          exact ⟨by rw [← r2.length]; exact hl.1, spG_of R2 (.cons (r1.mono T2.le) (r2.gxs pm)) hl.2 h2⟩
        · exact h2.elim
      · exact h1.elim
  refine PySem.W.methodCall_KW (pl := pl) (thn ((he Wx tk).run pins s σ H _ I h') fun u s1 ⟨x, H1, I1, rx, a, dx, fv, ex, ea, l, q⟩ => ?_) ht
  subst ex
  obtain rfl : u = Value.ref a := rx
  refine getmeth_ok I1 ea cl hm l (PySem.W.callWith_KW0 (first := [.ref a]) (h₀ := X.base) I.ok.mod.kin hm.kp hall
    (thn ((hkw Wx tk).run pos pins s1 σ H1 _ I1 q) fun ws s2 ⟨vs, H2, I2, r, hl, q2⟩ => ⟨I2.kIn, ?_⟩) hpl)
  rw [hks]
  have r2 : Vals (.ref a :: gxs pm vs) (.ref a :: gxs pm ws) := .cons rfl (valsGxs r pm)
  have hps : (Value.ref a :: gxs pm ws).length = ps.length := by
    rw [← r2.length]
    exact F.len _ _ _ _ q2
  refine wpAny_call (codeAny_mono (F.run X.A X.stack s2 H2 ⟨[.ref a], ks.zip ws⟩ (.ref a :: gxs pm ws) (.ref a :: gxs pm vs) Q (WE Wx σ) hr Cc.grd I2.env0 (hb s2 (.ref a) ws I2.kIn (by rw [← r.length]; exact hl) hps) r2 q2) fun z s' hq => ?_)
  match z, hq with
  | .error er, hq => exact passAt tk σ pins H2 s2 er s' I2 hq
  | .ok (.ret u), hq => exact I2.after hq
end
end EV

/-! E23: dicts whose keys are tuples; min of three; update. -/
namespace L2
open PySem PySem.Spec PyProof.Rows
theorem KT.all {H : Hp} : ∀ {more : List (List Key × V)} {ys : List (List Key × Addr × Value)} {kvs : List (List Key × V)} {xs : List (List Key × Addr × Value)}, KT H kvs xs → KT H more ys → KT H (more.foldl (fun acc p => putK acc p.1 p.2) kvs) (PySem.storedAllH xs ys)
  | _, _, _, _, r, .nil => r
  | _, _, _, _, r, .cons (a := p) (b := q) h t => by
    obtain ⟨h1, h2, h3⟩ := h
    have := r.put p.1 (b := q.2.1) (y := p.2) (u := q.2.2) h2 h3
    rw [h1] at this
    show KT H (List.foldl _ (putK _ p.1 p.2) _) (PySem.storedAllH (PySem.storedH _ q.1 q.2.1 q.2.2) _)
    rw [h1]
    exact KT.all this t
def tUpd (td ty : TE) : TE := fun σ H Q => td σ H fun x H1 => ∃ a, x = .ref a ∧ IsD H1 a ∧ ty σ H1 fun y H2 => ∃ b kvs more, y = .ref b ∧ a ≠ b ∧ H2 a = some (.dT kvs) ∧ H2 b = some (.dT more) ∧ (kvs ≠ [] ∨ more.length ≤ 1) ∧ kvs.length + more.length ≤ sizeLine ∧
  Q .non (upd H2 a (.dT (more.foldl (fun acc p => putK acc p.1 p.2) kvs)))
section
variable {X : Cx} {o e : Expr} {apos cpos : Pos} {td ty : TE}
theorem pe_upd (hu : X.A.units + 1 < cLine) (ho : PE X o td) (he : PE X e ty) (m : M1 X o "update" apos e cpos) : PE X (.Call (.Attribute o "update" apos) [e] [] cpos) (tUpd td ty) := by
  refine ⟨fun pins s σ H Q I h => ?_⟩
  refine wpAny_Call_method m.base m.few m.line PySem.F.plainAttrs_dict PySem.F.slot_dict_update PySem.F.type_dict_update (thn (ho.run pins s σ H _ I h) fun u s1 ⟨x, H1, I1, rx, a, ex, d, q1⟩ => ?_)
  subst ex
  obtain rfl : u = Value.ref a := rx
  obtain ⟨t1, t2, _⟩ := isD_at I1 d
  refine ⟨t1, t2, ?_⟩
  rw [m.trees]
  refine Calls.callWith_builtin rfl (Calls.evalArgs_plain (Calls.spliced_cons (thn (he.run pins s1 σ H1 _ I1 q1) fun iv s2 ⟨y, H2, I2, ry, b, kvs, more, ey, hab, ea, eb, hne, hsz, q2⟩ => Calls.spliced_nil ?_)))
  subst ey
  obtain rfl : iv = Value.ref b := ry
  obtain ⟨z1, hd1, xs, r1, dd1⟩ := dt_of I2.hok ea
  obtain ⟨z2, hd2, ys, r2, dd2⟩ := dt_of I2.hok eb
  have l1 := Paired.length r1
  have l2 := Paired.length r2
  refine PySem.call_update_dictH (tupleKind_room_in1 hu) hab hd2 dd1 dd2 ?_ (by rw [← l1, ← l2]; exact hsz) fun h' d1 d2 hs => ?_
  · rcases hne with hne | hne
    · refine .inl fun z => hne ?_
      rw [z] at l1
      exact List.length_eq_zero_iff.mp l1
    · refine .inr ⟨fun x hx => ?_, ?_⟩
      · obtain ⟨_, _, _, _, _, _, _, his, _⟩ := dd2
        obtain ⟨o, its, n, h1, h2, h3, h4⟩ := his x hx
        exact ⟨o, h1, h2⟩
      · match ys, l2 with
        | [], _ => exact List.nodup_nil
        | [y], _ => simp
        | _ :: _ :: _, l2 =>
          rw [List.length_cons, List.length_cons] at l2
          omega
  · refine ⟨.non, _, ?_, rfl, q2⟩
    have hl : (more.foldl (fun acc p => putK acc p.1 p.2) kvs).length ≤ sizeLine := by
      have k := KT.all r1 r2
      have e1 := Paired.length k
      have e2 := PySem.storedAllH_length ys xs
      omega
    obtain ⟨q, es, ep, hq, h2, h3, h4, _, h5⟩ := d1
    refine d_write I2 (by rw [ea]; exact True.intro) hs ⟨q, hq⟩ ⟨hl, hd1, _, (KT.all r1 r2).keeps fun c ys ec => ?_, q, es, ep, hq, h2, h3, h4, h5⟩
    rw [upd_ne (ne_of ec ea (fun z => nomatch z))]
    exact ec
end
end L2
namespace EV
open PySem PySem.Spec PyProof.Rows L2
def keyDs : List D → Option (List Key)
  | [] => some []
  | d :: ds => match keyD d, keyDs ds with
    | some k, some ks => some (k :: ks)
    | _, _ => none
def keyT : D → Option (List Key)
  | .tup ds => keyDs ds
  | _ => none
theorem reps_keys {K : PySem.W.Frag} {W : Wd} : ∀ {ds : List D} {vs : List V} {ks : List Key}, Reps K W ds vs → keyDs ds = some ks → vs = ks.map kV
  | [], _, _, .nil, h => by cases h; rfl
  | d :: ds, _, _, .cons r rr, h => by
    unfold keyDs at h
    split at h
    · rename_i k ks h1 h2
      cases h
      rw [List.map_cons, rep_key r h1, reps_keys rr h2]
    · cases h
theorem RS.keyT {G : Sig} {K : PySem.W.Frag} {W : Wd} {S : Sto} {H : Hp} {d : D} {v : V} {k : List Key} (R : RS G K W S H) (r : Rep K W d v) (h : EV.keyT d = some k) : ∃ b, v = .ref b ∧ H b = some (.tup (k.map kV)) := by
  unfold EV.keyT at h
  split at h
  · cases r with
    | tup hh rs =>
      rw [reps_keys rs h] at hh
      exact ⟨_, rfl, R.fr _ _ hh⟩
  · cases h
def findT (k : List Key) : List (List Key × D) → Option D
  | [] => none
  | (j, d) :: r => if j = k then some d else findT k r
def putT (ks : List (List Key × D)) (k : List Key) (d : D) : List (List Key × D) := if (findT k ks).isSome = true then ks.map (fun p => if p.1 = k then (p.1, d) else p) else ks ++ [(k, d)]
section
variable {K : PySem.W.Frag} {W : Wd} {k : List Key}
theorem RepF.findT : ∀ {ks : List (List Key × D)} {vs : List (List Key × V)} {d : D}, RepF K W ks vs → EV.findT k ks = some d → ∃ v, valV vs k = some v ∧ Rep K W d v
  | [], _, _, _, e => by cases e
  | (i, x) :: r, (j, y) :: s, d, .cons h q, e => by
    obtain ⟨h1, h2⟩ := h
    have h1' : i = j := h1
    subst h1'
    unfold EV.findT at e
    split at e
    · rename_i ee
      cases e
      exact ⟨y, valV_pos ee, h2⟩
    · rename_i ee
      obtain ⟨u, q1, q2⟩ := RepF.findT q e
      exact ⟨u, by rw [valV_neg ee]; exact q1, q2⟩
theorem RepF.noT : ∀ {ks : List (List Key × D)} {vs : List (List Key × V)}, RepF K W ks vs → EV.findT k ks = none → valV vs k = none
  | [], _, .nil, _ => rfl
  | (i, x) :: r, (j, y) :: s, .cons h q, e => by
    have h1' : i = j := h.1
    subst h1'
    unfold EV.findT at e
    split at e
    · cases e
    · rename_i ee
      rw [valV_neg ee]
      exact RepF.noT q e
theorem RepF.snocT : ∀ {ks : List (List Key × D)} {vs : List (List Key × V)} {d : D} {v : V}, RepF K W ks vs → Rep K W d v → RepF K W (ks ++ [(k, d)]) (vs ++ [(k, v)])
  | _, _, _, _, .nil, h => .cons ⟨rfl, h⟩ .nil
  | _, _, _, _, .cons q r, h => .cons q (RepF.snocT r h)
theorem RepF.mapT {d : D} {v : V} (h : Rep K W d v) : ∀ {ks : List (List Key × D)} {vs : List (List Key × V)}, RepF K W ks vs → RepF K W (ks.map (fun p => if p.1 = k then (p.1, d) else p)) (vs.map (fun p => if p.1 = k then (p.1, v) else p))
  | _, _, .nil => .nil
  | (j, x) :: _, (i, u) :: _, .cons q r => by
    have e : j = i := q.1
    subst e
    rw [List.map_cons, List.map_cons]
    refine .cons ?_ (RepF.mapT h r)
    by_cases z : j = k
    · simp only [z, if_true]
      exact ⟨trivial, h⟩
    · simp only [z, if_false]
      exact ⟨trivial, q.2⟩
theorem RepF.putT {d : D} {v : V} {ks : List (List Key × D)} {vs : List (List Key × V)} (r : RepF K W ks vs) (h : Rep K W d v) : RepF K W (EV.putT ks k d) (putK vs k v) := by
  unfold EV.putT
  cases q : EV.findT k ks with
  | none =>
    rw [putK_new v (r.noT q)]
    exact r.snocT h
  | some x =>
    obtain ⟨u, q1, _⟩ := r.findT q
    have e : (vs.any fun kv => decide (kv.1 = k)) = true := by rw [valV_any, q1]; rfl
    unfold putK
    rw [if_pos e]
    exact r.mapT h
end
theorem RepF.putAll {K : PySem.W.Frag} {W : Wd} : ∀ {ms : List (List Key × D)} {ws : List (List Key × V)} {ks : List (List Key × D)} {vs : List (List Key × V)}, RepF K W ks vs → RepF K W ms ws → RepF K W (ms.foldl (fun acc p => EV.putT acc p.1 p.2) ks) (ws.foldl (fun acc p => putK acc p.1 p.2) vs)
  | _, _, _, _, r, .nil => r
  | (j, x) :: _, (i, u) :: _, _, _, r, .cons h t => by
    have e : j = i := h.1
    subst e
    have := RepF.putAll (RepF.putT (k := j) r h.2) t
    exact this
def dicT (S : Sto) : D → Option (List (List Key × D))
  | .cell n => match S[n]? with
    | some (some (.dT ks)) => some ks
    | _ => none
  | _ => none
theorem RS.dicT {G : Sig} {K : PySem.W.Frag} {W : Wd} {S : Sto} {H : Hp} (R : RS G K W S H) {d : D} {u : V} {ks : List (List Key × D)} (r : Rep K W d u) (h : EV.dicT S d = some ks) :
    ∃ n a vs, d = .cell n ∧ u = .ref a ∧ W.as[n]? = some a ∧ S[n]? = some (some (.dT ks)) ∧ H a = some (.dT vs) ∧ RepF K W ks vs := by
  unfold EV.dicT at h
  split at h
  · rename_i n
    split at h
    · rename_i ks' q
      cases h
      cases r with
      | @cell a _ ha =>
        obtain ⟨a', z1, _, vs, z3, z4⟩ := R.cl n _ q
        rw [ha] at z1
        cases z1
        exact ⟨n, a, vs, rfl, rfl, ha, q, z3, z4⟩
    · cases h
  · cases h
section
variable {G : Sig} {X : Cx} {o i e f o2 i2 : Expr} {fo fi fe ff fo2 fi2 : EX} {fr : EA} {pos pos' pos2 apos cpos tp : Pos}
/-- {}, for keys that are tuples -/
def xNewT : EX := fun _ S => some (.ok (.cell S.length), S ++ [some (.dT [])])
theorem ge_newT : GE G X (.Dict [] [] pos) xNewT := by
  intro Wx tk
  refine pe_imp pe_dnewT ?_
  rintro σ H Q ⟨ρ, S, W, E, R, h⟩ p hp
  obtain ⟨T0, R0, L0⟩ := R.new hp (.dT [])
  obtain ⟨W4, le4, T4, R4, e4⟩ := R0.cell T0 hp L0 (c := .dT []) ⟨_, upd_same, .nil⟩
  exact h _ _ W4 T4 R4 (.cell e4)
/-- d.get(k, v), k a tuple -/
def get2T (o k y : D) (S : Sto) : Res D := match dicT S o, keyT k with
  | some ks, some kk => some (.ok ((findT kk ks).getD y), S)
  | _, _ => none
def xGet2T (fo fk fv : EX) : EX := fun ρ S => bnd (fo ρ S) fun d S1 => match dicT S1 d with
  | some _ => bnd (fk ρ S1) fun k S2 => bnd (fv ρ S2) fun y S3 => get2T d k y S3
  | none => none
theorem ge_get2T (Cc : Ctx X) (ho : GE G X o fo) (he : GE G X e fe) (hf : GE G X f ff) (m : M2 X o "get" apos e f cpos) : GE G X (.Call (.Attribute o "get" apos) [e, f] [] cpos) (xGet2T fo fe ff) := by
  intro Wx tk
  refine pe_imp (pe_dget2 (by have := Cc.un; omega) (ho Wx tk) (he Wx tk) (hf Wx tk) m) ?_
  rintro σ H Q ⟨ρ, S, W, E, R, h⟩
  refine tE_of pkE E R h fun d S1 v H1 W1 T1 E1 R1 r1 h1 => ?_
  split at h1
  · rename_i ks0 q0
    obtain ⟨n, a, vs0, rfl, rfl, ha, _, e1, _⟩ := R1.dicT r1 q0
    refine ⟨a, rfl, .inr ⟨vs0, .of e1⟩, ?_⟩
    refine tE_of pkE E1 R1 h1 fun k S2 u H2 W2 T2 E2 R2 r2 h2 => tE_of pkE E2 R2 h2 fun y S3 z H3 W3 T3 E3 R3 r3 h3 => ?_
    unfold get2T at h3
    split at h3
    · rename_i ks kk q qk
      obtain ⟨b, rfl, eb⟩ := R3.keyT (r2.mono T3.le) qk
      obtain ⟨n', a', vs, en, ea, _, _, e2, rr⟩ := R3.dicT ((r1.mono T2.le).mono T3.le) q
      cases ea
      refine ⟨valV vs kk, DGet.t e2 eb, ?_⟩
      cases qf : findT kk ks with
      | none =>
        rw [qf] at h3
        rw [rr.noT qf]
        exact h3 z H3 W3 (.refl _ _) R3 r3
      | some x =>
        rw [qf] at h3
        obtain ⟨w, w1, w2⟩ := rr.findT qf
        rw [w1]
        exact h3 w H3 W3 (.refl _ _) R3 w2
    · exact h3.elim
  · exact h1.elim
/-- d[k] = v, k a tuple -/
def putTD (o k v : D) (S : Sto) : Res D := match o, keyT k with
  | .cell n, some kk => match S[n]? with
    | some (some (.dT ks)) => if ks.length < cap then some (.ok .non, S.set n (some (.dT (putT ks kk v)))) else none
    | _ => none
  | _, _ => none
theorem RS.putTD {W : Wd} {S : Sto} {H : Hp} {o k v : D} {uo uk uv : V} {Q : D → Sto → Prop} (R : RS G X.K W S H) (ro : Rep X.K W o uo) (rk : Rep X.K W k uk) (rv : Rep X.K W v uv) {Wx : WX} {σ : L2.St} {QV : VK} (h : PostE G X.K Wx σ QV W H (EV.putTD o k v S)) :
    ∃ (a : Addr) (H' : Hp) (S' : Sto), uo = .ref a ∧ DPut H a uk uv H' ∧ EV.putTD o k v S = some (.ok .non, S') ∧ Stp W H W H' ∧ RS G X.K W S' H' := by
  unfold EV.putTD at h ⊢
  split at h
  · rename_i n kk qk
    split at h
    · rename_i ks q
      split at h
      · rename_i hc
        cases ro with
        | @cell a _ ha =>
          obtain ⟨b, rfl, eb⟩ := R.keyT rk qk
          obtain ⟨a', z1, _, vs, z3, z4⟩ := R.cl n _ q
          rw [ha] at z1
          cases z1
          obtain ⟨T4, R4⟩ := R.put q ha (c' := .dT (putT ks kk v)) (o := .dT (putK vs kk uv)) ⟨_, upd_same, z4.putT rv⟩
          refine ⟨a, _, _, rfl, DPut.t z3 eb (Nat.lt_of_lt_of_le (by rw [← z4.len]; exact hc) cap_le), ?_, T4, R4⟩
          rw [if_pos hc]
      · exact h.elim
    · exact h.elim
  · exact h.elim
def xDPutT (fo fi fe : EX) : ES := fun ρ S => bndS (bnd (fe ρ S) fun v S1 => bnd (fo ρ S1) fun o S2 => bnd (fi ρ S2) fun k S3 => putTD o k v S3) ρ fun _ S4 => some (.nx ρ S4)
theorem gs_dputT (Cc : Ctx X) (ho : GE G X o fo) (hi : GE G X i fi) (hv : GE G X e fe) (hs : swapsWith e (some (.Subscript o i pos')) pos.line X.env = pure false := by rfl) : GS G X (.Assign [.Subscript o i pos'] e pos) (xDPutT fo fi fe) := by
  intro Wx tk
  refine ps_imp (ps_dput (by have := Cc.un; omega) (ho Wx tk) (hi Wx tk) (hv Wx tk) hs) ?_
  rintro Dn σ H ⟨ρ, S, W, E, R, h⟩
  have h' : PostE G X.K Wx σ (fun _ H' => Dn.nx σ H') W H (bnd (fe ρ S) fun v S1 => bnd (fo ρ S1) fun o S2 => bnd (fi ρ S2) fun k S3 => putTD o k v S3) := by
    unfold xDPutT at h
    generalize (bnd (fe ρ S) fun v S1 => bnd (fo ρ S1) fun o S2 => bnd (fi ρ S2) fun k S3 => putTD o k v S3) = z at h ⊢
    match z, h with
    | none, h => exact h
    | some (.ok x, S2), h => exact fun v H' W' T R' _ => h σ H' W' T (E.mono T.le) R'
    | some (.error x, S2), h => exact fun cls dx H' W' T R' er => h cls dx σ H' W' T (E.mono T.le) R' er
  refine tE_of pkE E R h' fun v S1 u H1 W1 T1 E1 R1 r1 h1 => tE_of pkE E1 R1 h1 fun d S2 w H2 W2 T2 E2 R2 r2 h2 => tE_of pkE E2 R2 h2 fun k S3 z H3 W3 T3 E3 R3 r3 h3 => ?_
  obtain ⟨a, H', S', rfl, p1, p2, p3, p4⟩ := R3.putTD (Q := fun _ _ => True) (r2.mono T3.le) r3 ((r1.mono T2.le).mono T3.le) h3
  rw [p2] at h3
  exact ⟨a, _, rfl, p1, h3 .non _ W3 p3 p4 .non⟩
/-- d[k] with k a tuple -/
def getTD (o k : D) (S : Sto) : Res D := match dicT S o, keyT k with
  | some ks, some kk => match findT kk ks with
    | some d => some (.ok d, S)
    | none => none
  | _, _ => none
theorem ge_dgetT (Cc : Ctx X) (ho : GE G X o fo) (hi : GE G X i fi) (hs : NoSl i) : GE G X (.Subscript o i pos) (xBin getTD fo fi) := by
  intro Wx tk
  refine pe_imp (pe_dget (by have := Cc.un; omega) (ho Wx tk) (hi Wx tk) hs) ?_
  rintro σ H Q ⟨ρ, S, W, E, R, h⟩
  refine tE_of pkE E R h fun d S1 v H1 W1 T1 E1 R1 r1 h1 => tE_of pkE E1 R1 h1 fun k S2 u H2 W2 T2 E2 R2 r2 h2 => ?_
  unfold getTD at h2
  split at h2
  · rename_i ks kk q qk
    split at h2
    · rename_i x qx
      obtain ⟨b, rfl, eb⟩ := R2.keyT r2 qk
      obtain ⟨n, a, vs, rfl, rfl, _, _, e1, rr⟩ := R2.dicT (r1.mono T2.le) q
      obtain ⟨w, w1, w2⟩ := rr.findT qx
      exact ⟨a, w, rfl, by rw [← w1]; exact DGet.t e1 eb, h2 w H2 W2 (.refl _ _) R2 w2⟩
    · exact h2.elim
  · exact h2.elim
/-- d.update(e) -/
def updT (o e : D) (S : Sto) : Res D := match o, e with
  | .cell n, .cell m => match S[n]?, S[m]? with
    | some (some (.dT ks)), some (some (.dT ms)) => if n ≠ m ∧ (ks.isEmpty = false ∨ ms.length ≤ 1) ∧ ks.length + ms.length ≤ cap then some (.ok .non, S.set n (some (.dT (ms.foldl (fun acc p => putT acc p.1 p.2) ks)))) else none
    | _, _ => none
  | _, _ => none
def xUpd (fo fe : EX) : EX := fun ρ S => bnd (fo ρ S) fun d S1 => match dicT S1 d with
  | some _ => bnd (fe ρ S1) fun e S2 => updT d e S2
  | none => none
theorem ge_upd (Cc : Ctx X) (ho : GE G X o fo) (he : GE G X e fe) (m : M1 X o "update" apos e cpos) : GE G X (.Call (.Attribute o "update" apos) [e] [] cpos) (xUpd fo fe) := by
  intro Wx tk
  refine pe_imp (pe_upd (by have := Cc.un; omega) (ho Wx tk) (he Wx tk) m) ?_
  rintro σ H Q ⟨ρ, S, W, E, R, h⟩
  refine tE_of pkE E R h fun d S1 v H1 W1 T1 E1 R1 r1 h1 => ?_
  split at h1
  · rename_i ks0 q0
    obtain ⟨n, a, vs0, rfl, rfl, ha, _, e1, _⟩ := R1.dicT r1 q0
    refine ⟨a, rfl, .inr ⟨vs0, .of e1⟩, ?_⟩
    refine tE_of pkE E1 R1 h1 fun e2 S2 u H2 W2 T2 E2 R2 r2 h2 => ?_
    unfold updT at h2
    split at h2
    · rename_i n' m' en
      cases en
      split at h2
      · rename_i ks ms q1 q2
        split at h2
        · rename_i hc
          have r1' := r1.mono T2.le
          cases r1' with
          | @cell a _ ha2 =>
            cases r2 with
            | @cell b _ hb =>
              obtain ⟨a', z1, _, vs, z3, z4⟩ := R2.cl n _ q1
              rw [ha2] at z1
              cases z1
              obtain ⟨b', y1, _, ws, y3, y4⟩ := R2.cl m' _ q2
              rw [hb] at y1
              cases y1
              have ne : a ≠ b := fun z => by
                subst z
                obtain ⟨l1, g1⟩ := List.getElem?_eq_some_iff.mp ha2
                obtain ⟨l2, g2⟩ := List.getElem?_eq_some_iff.mp hb
                exact hc.1 ((List.getElem_inj R2.nd).mp (g1.trans g2.symm))
              obtain ⟨T4, R4⟩ := R2.put q1 ha2 (c' := .dT (ms.foldl (fun acc p => putT acc p.1 p.2) ks)) (o := .dT (ws.foldl (fun acc p => putK acc p.1 p.2) vs)) ⟨_, upd_same, RepF.putAll z4 y4⟩
              refine ⟨b, vs, ws, rfl, ne, z3, y3, ?_, ?_, h2 .non _ W2 T4 R4 .non⟩
              · rcases hc.2.1 with w | w
                · left
                  intro w2
                  rw [z4.emp, w2] at w
                  cases w
                · right
                  rw [← y4.len]
                  exact w
              · rw [← z4.len, ← y4.len]
                exact Nat.le_trans hc.2.2 cap_le
        · exact h2.elim
      · exact h2.elim
    · exact h2.elim
  · exact h1.elim
/-- min of three -/
def gMin3 : List D → Sto → Res D
  | [.int i, .int j, .int k], S => some (.ok (.int (if k < (if j < i then j else i) then k else (if j < i then j else i))), S)
  | _, _ => none
theorem k_min3 : CallOk G X (rNuC3 nuMin3) gMin3 := by
  intro Wx σ Q W S H ds vs R r h
  unfold gMin3 at h
  split at h
  · rename_i i j k
    cases r with
    | cons h1 r =>
      cases r with
      | cons h2 r =>
        cases r with
        | cons h3 r =>
          cases r
          cases h1
          cases h2
          cases h3
          refine ⟨_, _, _, .int (if k < (if j < i then j else i) then k else (if j < i then j else i)), rfl, ?_, h _ H W (.refl _ _) R (.int _)⟩
          unfold nuMin3 nuMin2
          by_cases c1 : j < i <;> by_cases c2 : k < i <;> by_cases c3 : k < j <;> simp [nuLt, nuCB, c1, c2, c3]
  · exact h.elim
end
end EV

/-! E24: a[i], b[j] = x, y: dicts whose keys are tuples. -/
namespace EV
open PySem PySem.Spec PyProof.Rows L2
section
variable {G : Sig} {X : Cx} {o i e o2 i2 : Expr} {fo fi fe fo2 fi2 : EX} {pos pos' pos2 tp : Pos} {kt : Nat}
theorem RS.putTD2 {W : Wd} {S : Sto} {H : Hp} {o k v : D} {uo uk uv : V} {f : D → Sto → Res D} (R : RS G X.K W S H) (ro : Rep X.K W o uo) (rk : Rep X.K W k uk) (rv : Rep X.K W v uv) {Wx : WX} {σ : L2.St} {QV : VK} (h : PostE G X.K Wx σ QV W H (bnd (EV.putTD o k v S) f)) :
    ∃ (a : Addr) (H' : Hp) (S' : Sto), uo = .ref a ∧ DPut H a uk uv H' ∧ EV.putTD o k v S = some (.ok .non, S') ∧ Stp W H W H' ∧ RS G X.K W S' H' := by
  unfold EV.putTD at h ⊢
  split at h
  · rename_i n kk qk
    split at h
    · rename_i ks q
      split at h
      · rename_i hc
        cases ro with
        | @cell a _ ha =>
          obtain ⟨b, rfl, eb⟩ := R.keyT rk qk
          obtain ⟨a', z1, _, vs, z3, z4⟩ := R.cl n _ q
          rw [ha] at z1
          cases z1
          obtain ⟨T4, R4⟩ := R.put q ha (c' := .dT (putT ks kk v)) (o := .dT (putK vs kk uv)) ⟨_, upd_same, z4.putT rv⟩
          refine ⟨a, _, _, rfl, DPut.t z3 eb (Nat.lt_of_lt_of_le (by rw [← z4.len]; exact hc) cap_le), ?_, T4, R4⟩
          rw [if_pos hc]
      · exact h.elim
    · exact h.elim
  · exact h.elim
def xTSub (fe fo fi fo2 fi2 : EX) : ES := fun ρ S => bndS (bnd (fe ρ S) fun d S1 => match d with
  | .tup [x, y] => bnd (fo ρ S1) fun o S2 => bnd (fi ρ S2) fun k S3 => bnd (putTD o k x S3) fun _ S4 => bnd (fo2 ρ S4) fun o S5 => bnd (fi2 ρ S5) fun k S6 => putTD o k y S6
  | _ => none) ρ fun _ S7 => some (.nx ρ S7)
theorem gs_tsub (Cc : Ctx X) (he : GE G X e fe) (ho : GE G X o fo) (hi : GE G X i fi) (ho2 : GE G X o2 fo2) (hi2 : GE G X i2 fi2)
    (hs : swapsWithSole [.Tuple [.Subscript o i pos', .Subscript o2 i2 pos2] kt tp] e pos.line X.env = pure false := by rfl) (hw : swappedStores [.Tuple [.Subscript o i pos', .Subscript o2 i2 pos2] kt tp] e X.env = pure none := by rfl)
    (h1 : (assignEach [.Tuple [.Subscript o i pos', .Subscript o2 i2 pos2] kt tp] X.env).map (·.2) = [assign (.Tuple [.Subscript o i pos', .Subscript o2 i2 pos2] kt tp) X.env] := by rfl)
    (hn : (assignEach [.Subscript o i pos', .Subscript o2 i2 pos2] X.env).length = 2 := by rfl) (hst : (assignEach [.Subscript o i pos', .Subscript o2 i2 pos2] X.env).findIdx? (·.1) = none := by rfl)
    (ha : ∀ v, assign (.Subscript o i pos') X.env v = (do
      let ov ← holding [v] (eval o X.env)
      let iv ← holding [v, ov] (eval i X.env)
      standAt pos'
      holding [v, ov, iv] (setItem ov iv v)
      release [v, ov, iv] []) := by intro _; rfl)
    (ha2 : ∀ v, assign (.Subscript o2 i2 pos2) X.env v = (do
      let ov ← holding [v] (eval o2 X.env)
      let iv ← holding [v, ov] (eval i2 X.env)
      standAt pos2
      holding [v, ov, iv] (setItem ov iv v)
      release [v, ov, iv] []) := by intro _; rfl)
    (hc1 : (assignEach [.Subscript o i pos', .Subscript o2 i2 pos2] X.env).map (·.2) = assign (.Subscript o i pos') X.env :: (assignEach [.Subscript o2 i2 pos2] X.env).map (·.2) := by rfl)
    (hc2 : (assignEach [.Subscript o2 i2 pos2] X.env).map (·.2) = assign (.Subscript o2 i2 pos2) X.env :: (assignEach [] X.env).map (·.2) := by rfl) :
    GS G X (.Assign [.Tuple [.Subscript o i pos', .Subscript o2 i2 pos2] kt tp] e pos) (xTSub fe fo fi fo2 fi2) := by
  intro Wx tk
  have hu : X.A.units + 1 < cLine := by have := Cc.un; omega
  refine ps_imp (ps_asg (he Wx tk) (pg_tup Cc.calm (pgs_cons (pg_sub (ho Wx tk) (hi Wx tk) (set_dict hu) ha) (pgs_cons (pg_sub (ho2 Wx tk) (hi2 Wx tk) (set_dict hu) ha2) pgs_nil hc2) hc1) hn hst) hs hw h1) ?_
  rintro Dn σ H ⟨ρ, S, W, E, R, h⟩
  have h' : PostE G X.K Wx σ (fun _ H' => Dn.nx σ H') W H (bnd (fe ρ S) fun d S1 => match d with
      | .tup [x, y] => bnd (fo ρ S1) fun o S2 => bnd (fi ρ S2) fun k S3 => bnd (putTD o k x S3) fun _ S4 => bnd (fo2 ρ S4) fun o S5 => bnd (fi2 ρ S5) fun k S6 => putTD o k y S6
      | _ => none) := by
    unfold xTSub at h
    generalize (bnd (fe ρ S) fun d S1 => match d with
      | .tup [x, y] => bnd (fo ρ S1) fun o S2 => bnd (fi ρ S2) fun k S3 => bnd (putTD o k x S3) fun _ S4 => bnd (fo2 ρ S4) fun o S5 => bnd (fi2 ρ S5) fun k S6 => putTD o k y S6
      | _ => none) = z at h ⊢
    match z, h with
    | none, h => exact h
    | some (.ok x, S2), h => exact fun v H' W' T R' _ => h σ H' W' T (E.mono T.le) R'
    | some (.error x, S2), h => exact fun cls dx H' W' T R' er => h cls dx σ H' W' T (E.mono T.le) R' er
  refine tE_of pkE E R h' fun d S1 u H1 W1 T1 E1 R1 r1 h1 => ?_
  split at h1
  · rename_i x y
    cases r1 with
    | tup hh rs =>
      obtain ⟨vx, vy, rfl, rx, ry⟩ := reps2 rs
      refine ⟨_, [vx, vy], rfl, .of (R1.fr _ _ hh), rfl, vx, [vy], rfl, ?_⟩
      refine tE_of pkE E1 R1 h1 fun o S2 w H2 W2 T2 E2 R2 r2 h2 => tE_of pkE E2 R2 h2 fun k S3 z H3 W3 T3 E3 R3 r3 h3 => ?_
      obtain ⟨a, H', S', rfl, p1, p2, p3, p4⟩ := R3.putTD2 (r2.mono T3.le) r3 ((rx.mono T2.le).mono T3.le) h3
      rw [p2] at h3
      refine ⟨a, _, rfl, p1, vy, [], rfl, ?_⟩
      refine tE_of pkE (E3.mono p3.le) p4 (pkE.later _ _ _ _ _ _ p3 p4 h3) fun o S5 w5 H5 W5 T5 E5 R5 r5 h5 => tE_of pkE E5 R5 h5 fun k S6 z6 H6 W6 T6 E6 R6 r6 h6 => ?_
      obtain ⟨a2, H7, S7, rfl, q1, q2, q3, q4⟩ := R6.putTD (Q := fun _ _ => True) (r5.mono T6.le) r6 ((((((ry.mono T2.le).mono T3.le)).mono p3.le).mono T5.le).mono T6.le) h6
      rw [q2] at h6
      exact ⟨a2, _, rfl, q1, rfl, h6 .non _ W6 q3 q4 .non⟩
  · exact h1.elim
end
end EV

/-! E25: o.f, p.g = x, y. -/
namespace L2
open PySem PySem.Spec PyProof.Rows
def gAttr (K : PySem.W.Frag) (to : TE) (f : Str) : TG := fun v σ H Q => to σ H fun x H1 => ∃ a C dx fs, x = .ref a ∧ H1 a = some (.ins C dx fs) ∧ Cls K C ∧ NoAttr K C f ∧ fs.length < 1000 ∧ Q σ (upd H1 a (.ins C dx (putF f v fs)))
theorem pg_attr {X : Cx} {o : Expr} {f : Str} {pos : Pos} {to : TE} (ho : PE X o to)
    (ha : ∀ v, assign (.Attribute o f pos) X.env v = (do
      let ov ← holding [v] (eval o X.env)
      standAt pos.atName
      holding [v, ov] (setAttr ov f v)
      release [v, ov] []) := by intro _; rfl) : PG X (.Attribute o f pos) (gAttr X.K to f) := by
  refine ⟨fun pins s σ H v u Q I r h => ?_⟩
  rw [ha]
  refine wpAny_bind (wpAny_holding (thn (ho.run pins s σ H _ I h) fun ov s1 ⟨x, H1, I1, r1, a, C, dx, fs, ex, ea, c, n, l, q⟩ => ?_))
  subst ex
  obtain rfl : ov = Value.ref a := r1
  refine wpAny_bind (wpAny_standAt (wpAny_bind (wpAny_holding (setattr_ok I1 ea c n l r fun s3 I3 => ?_))))
  exact wpAny_release ⟨σ, _, I3, q⟩
end L2
namespace EV
open PySem PySem.Spec PyProof.Rows L2
section
variable {G : Sig} {X : Cx} {o e o2 : Expr} {fo fe fo2 : EX} {pos pos' pos2 tp : Pos} {kt : Nat}
def fldD (c i : Nat) (v o : D) (S : Sto) : Res D := match o with
  | .cell n => match S[n]? with
    | some (some (.ins c' fs)) => if c' = c ∧ fs.length < 900 then some (.ok .non, S.set n (some (.ins c (putN i v fs)))) else none
    | _ => none
  | _ => none
theorem RS.fldD {W : Wd} {S : Sto} {H : Hp} {c i : Nat} {o v : D} {uo uv : V} {f : D → Sto → Res D} (hi : i < G.nf) (R : RS G X.K W S H) (ro : Rep X.K W o uo) (rv : Rep X.K W v uv) {Wx : WX} {σ : L2.St} {QV : VK} (h : PostE G X.K Wx σ QV W H (bnd (EV.fldD c i v o S) f)) :
    ∃ (a dx : Addr) (fv : List (Str × V)) (S' : Sto), uo = .ref a ∧ H a = some (.ins (G.cls c) dx fv) ∧ fv.length < 1000 ∧ EV.fldD c i v o S = some (.ok .non, S') ∧ Stp W H W (upd H a (.ins (G.cls c) dx (putF (G.fname i) uv fv))) ∧ RS G X.K W S' (upd H a (.ins (G.cls c) dx (putF (G.fname i) uv fv))) := by
  unfold EV.fldD at h ⊢
  split at h
  · rename_i n
    split at h
    · rename_i c' fs q
      split at h
      · rename_i hc
        obtain ⟨rfl, hc2⟩ := hc
        cases ro with
        | @cell a _ ha =>
          obtain ⟨a', z1, _, dx, fv, z3, z4⟩ := R.cl n _ q
          rw [ha] at z1
          cases z1
          have hlen := z4.length
          obtain ⟨T3, R3⟩ := R.put q ha (c' := .ins c' (putN i v fs)) (o := .ins (G.cls c') dx (putF (G.fname i) uv fv)) ⟨dx, _, upd_same, RepN.put hi rv z4⟩
          refine ⟨a, dx, fv, _, rfl, z3, by omega, ?_, T3, R3⟩
          rw [if_pos ⟨rfl, hc2⟩]
      · exact h.elim
    · exact h.elim
  · exact h.elim
def xTFld (c i j : Nat) (fe fo fo2 : EX) : ES := fun ρ S => bndS (bnd (fe ρ S) fun d S1 => match d with
  | .tup [x, y] => bnd (fo ρ S1) fun o S2 => bnd (fldD c i x o S2) fun _ S3 => bnd (fo2 ρ S3) fun o S4 => bnd (fldD c j y o S4) fun d S5 => some (.ok d, S5)
  | _ => none) ρ fun _ S7 => some (.nx ρ S7)
theorem gs_tfld {i j c : Nat} {fname gname : Str} (hf : G.fname i = fname) (hi : i < G.nf) (hg : G.fname j = gname) (hj : j < G.nf) (cl : Cls X.K (G.cls c)) (nA : NoAttr X.K (G.cls c) fname) (nB : NoAttr X.K (G.cls c) gname) (Cc : Ctx X) (he : GE G X e fe) (ho : GE G X o fo) (ho2 : GE G X o2 fo2)
    (hs : swapsWithSole [.Tuple [.Attribute o fname pos', .Attribute o2 gname pos2] kt tp] e pos.line X.env = pure false := by rfl) (hw : swappedStores [.Tuple [.Attribute o fname pos', .Attribute o2 gname pos2] kt tp] e X.env = pure none := by rfl)
    (h1 : (assignEach [.Tuple [.Attribute o fname pos', .Attribute o2 gname pos2] kt tp] X.env).map (·.2) = [assign (.Tuple [.Attribute o fname pos', .Attribute o2 gname pos2] kt tp) X.env] := by rfl)
    (hn : (assignEach [.Attribute o fname pos', .Attribute o2 gname pos2] X.env).length = 2 := by rfl) (hst : (assignEach [.Attribute o fname pos', .Attribute o2 gname pos2] X.env).findIdx? (·.1) = none := by rfl)
    (ha : ∀ v, assign (.Attribute o fname pos') X.env v = (do
      let ov ← holding [v] (eval o X.env)
      standAt pos'.atName
      holding [v, ov] (setAttr ov fname v)
      release [v, ov] []) := by intro _; rfl)
    (ha2 : ∀ v, assign (.Attribute o2 gname pos2) X.env v = (do
      let ov ← holding [v] (eval o2 X.env)
      standAt pos2.atName
      holding [v, ov] (setAttr ov gname v)
      release [v, ov] []) := by intro _; rfl)
    (hc1 : (assignEach [.Attribute o fname pos', .Attribute o2 gname pos2] X.env).map (·.2) = assign (.Attribute o fname pos') X.env :: (assignEach [.Attribute o2 gname pos2] X.env).map (·.2) := by rfl)
    (hc2 : (assignEach [.Attribute o2 gname pos2] X.env).map (·.2) = assign (.Attribute o2 gname pos2) X.env :: (assignEach [] X.env).map (·.2) := by rfl) :
    GS G X (.Assign [.Tuple [.Attribute o fname pos', .Attribute o2 gname pos2] kt tp] e pos) (xTFld c i j fe fo fo2) := by
  intro Wx tk
  refine ps_imp (ps_asg (he Wx tk) (pg_tup Cc.calm (pgs_cons (pg_attr (ho Wx tk) ha) (pgs_cons (pg_attr (ho2 Wx tk) ha2) pgs_nil hc2) hc1) hn hst) hs hw h1) ?_
  subst hf hg
  rintro Dn σ H ⟨ρ, S, W, E, R, h⟩
  have h' : PostE G X.K Wx σ (fun _ H' => Dn.nx σ H') W H (bnd (fe ρ S) fun d S1 => match d with
      | .tup [x, y] => bnd (fo ρ S1) fun o S2 => bnd (fldD c i x o S2) fun _ S3 => bnd (fo2 ρ S3) fun o S4 => bnd (fldD c j y o S4) fun d S5 => some (.ok d, S5)
      | _ => none) := by
    unfold xTFld at h
    generalize (bnd (fe ρ S) fun d S1 => match d with
      | .tup [x, y] => bnd (fo ρ S1) fun o S2 => bnd (fldD c i x o S2) fun _ S3 => bnd (fo2 ρ S3) fun o S4 => bnd (fldD c j y o S4) fun d S5 => some (.ok d, S5)
      | _ => none) = z at h ⊢
    match z, h with
    | none, h => exact h
    | some (.ok x, S2), h => exact fun v H' W' T R' _ => h σ H' W' T (E.mono T.le) R'
    | some (.error x, S2), h => exact fun cls dx H' W' T R' er => h cls dx σ H' W' T (E.mono T.le) R' er
  refine tE_of pkE E R h' fun d S1 u H1 W1 T1 E1 R1 r1 h1 => ?_
  split at h1
  · rename_i x y
    cases r1 with
    | tup hh rs =>
      obtain ⟨vx, vy, rfl, rx, ry⟩ := reps2 rs
      refine ⟨_, [vx, vy], rfl, .of (R1.fr _ _ hh), rfl, vx, [vy], rfl, ?_⟩
      refine tE_of pkE E1 R1 h1 fun o S2 w H2 W2 T2 E2 R2 r2 h2 => ?_
      obtain ⟨a, dx, fv, S', rfl, p0, p1, p2, p3, p4⟩ := R2.fldD hi r2 (rx.mono T2.le) h2
      rw [p2] at h2
      refine ⟨a, _, dx, fv, rfl, p0, cl, nA, p1, vy, [], rfl, ?_⟩
      refine tE_of pkE (E2.mono p3.le) p4 (pkE.later _ _ _ _ _ _ p3 p4 h2) fun o S5 w5 H5 W5 T5 E5 R5 r5 h5 => ?_
      obtain ⟨a2, dx2, fv2, S7, rfl, q0, q1, q2, q3, q4⟩ := R5.fldD hj r5 (((ry.mono T2.le).mono p3.le).mono T5.le) h5
      rw [q2] at h5
      exact ⟨a2, _, dx2, fv2, rfl, q0, cl, nB, q1, rfl, h5 .non _ W5 q3 q4 .non⟩
  · exact h1.elim
end
end EV

/-! E26: xs[::-1]. -/
namespace EV
open PySem PySem.Spec PyProof.Rows L2
theorem Reps.revd {K : PySem.W.Frag} {W : Wd} : ∀ {ds : List D} {vs : List V}, Reps K W ds vs → Reps K W ds.reverse vs.reverse
  | _, _, .nil => .nil
  | _, _, .cons h r => by
    rw [List.reverse_cons, List.reverse_cons]
    exact (Reps.revd r).append (.cons h .nil)
/-- xs[::-1], xs a list -/
def xRevL (f : EX) : EA := fun ρ S => bnd (f ρ S) fun d S1 => match d with
  | .tup _ => none
  | d => match seqD S1 d with
    | some xs => some (.ok xs.reverse, S1)
    | none => none
section
variable {G : Sig} {X : Cx} {e : Expr} {f : EX} {k : Nat} {p1 p2 p3 pos : Pos}
theorem gf_revL (he : GE G X e f) : GF G X (.Subscript e (.Slice none none (some (.UnaryOp .USub (.Constant (.int 1) k p1) p2)) p3) pos) (xRevL f) := by
  intro Wx tk
  refine pe_imp (pe_revL (he Wx tk)) ?_
  rintro σ H Q ⟨ρ, S, W, E, R, h⟩
  refine tE_of pkF E R h fun d S1 v H1 W1 T1 E1 R1 r1 h1 => ?_
  split at h1
  · exact h1.elim
  · rename_i d hnt
    split at h1
    · rename_i xs e1
      rcases seq_kind R1 r1 e1 with ⟨p, vs, rfl, _, hs, again⟩ | ⟨p, vs, rfl, ⟨ys, hy⟩, _⟩
      · obtain ⟨vs', hs', rs⟩ := again W1 S1 H1 (.refl _) R1 (stays_refl S1 _)
        refine ⟨p, vs', rfl, hs', fun q hq => ?_⟩
        obtain ⟨T4, R4, L4⟩ := R1.new hq (.lst vs'.reverse)
        exact h1 q _ _ W1 T4 R4 hq L4 upd_same rs.revd
      · exact absurd hy (hnt ys)
    · exact h1.elim
end
end EV

/-! E27: a name's cell becomes a list for ever, where the name stays. -/
namespace EV
open PySem PySem.Spec PyProof.Rows L2
def xFz (i : Nat) (g : ES) : ES := fun ρ S => match ρ[i]? with
  | some (some (.cell n)) => match S[n]? with
    | some (some (.lst xs)) => g (ρ.set i (some (.lst xs))) (S.set n none)
    | _ => none
  | _ => none
theorem gs_fz {G : Sig} {X : Cx} {st : Stmt} {g : ES} {i : Nat} (h : GS G X st g) : GS G X st (xFz i g) := by
  intro Wx tk
  refine ps_imp (h Wx tk) ?_
  rintro D σ H ⟨ρ, S, W, E, R, q⟩
  unfold xFz at q
  split at q
  · rename_i n e
    split at q
    · rename_i xs e2
      obtain ⟨v, h1, h2⟩ := E.2 i _ e
      cases h2 with
      | cell hn =>
        obtain ⟨W', T, R', r'⟩ := R.freeze e2 hn
        have E1 := E.mono T.le
        have E2 : RE X.K W' (ρ.set i (some (.lst xs))) σ := by
          refine ⟨by rw [List.length_set]; exact E1.1, fun j d z => ?_⟩
          by_cases c : i = j
          · subst c
            rw [List.getElem?_set] at z
            simp at z
            obtain ⟨_, rfl⟩ := z
            exact ⟨_, h1, r'⟩
          · rw [List.getElem?_set_ne c] at z
            exact E1.2 j d z
        exact ⟨_, _, W', E2, R', q.later T⟩
    · exact q.elim
  · exact q.elim
theorem fz_of {i n : Nat} {g : ES} {ρ : Frm} {S : Sto} {xs : List D} (h : ρ[i]? = some (some (.cell n))) (q : S[n]? = some (some (.lst xs))) : xFz i g ρ S = g (ρ.set i (some (.lst xs))) (S.set n none) := by
  unfold xFz
  rw [h]
  dsimp only
  rw [q]
end EV

/-! E28: a def of the text that is called with the error that a suite holds. -/
namespace EV
open PySem PySem.Spec PyProof.Rows L2
def gapO : Obj := ⟨.none, none, .freed, #[]⟩
/-- a base heap and one object more -/
def baseX (b : Heap) (a : Addr) (o : Obj) : Heap := { b with objs := Array.ofFn fun i : Fin (max b.objs.size (a + 1)) => if i.1 = a then o else (b.objs[i.1]?).getD gapO }
theorem baseX_size {b : Heap} {a : Addr} {o : Obj} : (baseX b a o).objs.size = max b.objs.size (a + 1) := by
  unfold baseX
  exact Array.size_ofFn
theorem baseX_at {b : Heap} {a : Addr} {o : Obj} (i : Nat) : (baseX b a o).objs[i]? = if i < max b.objs.size (a + 1) then some (if i = a then o else (b.objs[i]?).getD gapO) else none := by
  unfold baseX
  dsimp only
  rw [Array.getElem?_ofFn]
  by_cases h : i < max b.objs.size (a + 1)
  · rw [dif_pos h, if_pos h]
  · rw [dif_neg h, if_neg h]
theorem get_obj {h : Heap} {a : Addr} {o : Obj} (e : h.get? a = some o) : h.objs[a]? = some o := by
  unfold Heap.get? at e
  split at e
  all_goals first | exact e | cases e | skip
theorem baseX_get {b : Heap} {a : Addr} {o : Obj} (ho : ∃ h : Heap, h.get? a = some o) (i : Addr) : (baseX b a o).get? i = if i = a then some o else b.get? i := by
  obtain ⟨h, ho⟩ := ho
  have e := baseX_at (b := b) (a := a) (o := o) i
  by_cases c : i = a
  · subst c
    rw [if_pos rfl]
    rw [if_pos (Nat.lt_of_lt_of_le (Nat.lt_succ_self i) (Nat.le_max_right ..)), if_pos rfl] at e
    have e2 := get_obj ho
    unfold Heap.get? at ho ⊢
    rw [e]
    rw [e2] at ho
    exact ho
  · rw [if_neg c]
    rw [if_neg c] at e
    unfold Heap.get?
    rw [e]
    by_cases l : i < b.objs.size
    · rw [if_pos (Nat.lt_of_lt_of_le l (Nat.le_max_left ..)), Array.getElem?_eq_getElem l]
      rfl
    · rw [show b.objs[i]? = none from Array.getElem?_eq_none (Nat.le_of_not_lt l)]
      by_cases l2 : i < max b.objs.size (a + 1)
      · rw [if_pos l2]
        rfl
      · rw [if_neg l2]
theorem ff_baseX {h b : Heap} {a : Addr} {o : Obj} (ho : ∃ h : Heap, h.get? a = some o) : ∀ {l : List Env}, h.FunFrames b l → a ∉ frs l → h.FunFrames (baseX b a o) l
  | [], _, _ => trivial
  | env :: r, ⟨hk, ⟨L, o', hf, hn, ho', hd⟩, hr⟩, na => by
    have hL : L ≠ a := fun z => na (by unfold frs; rw [List.filterMap_cons, hf, z]; exact List.mem_cons_self)
    refine ⟨hk, ⟨L, o', hf, ?_, ho', hd⟩, ff_baseX ho hr fun z => na ?_⟩
    · rw [baseX_get ho, if_neg hL]
      exact hn
    · unfold frs at z ⊢
      rw [List.filterMap_cons, hf]
      exact List.mem_cons_of_mem _ z
theorem mod_baseX {K : PySem.W.Frag} {mg : Str → Option Value} {b : Heap} {a : Addr} {o : Obj} (k : ∀ i x, b.get? i = some x → (baseX b a o).get? i = some x) (m : Mod K mg b) : Mod K mg (baseX b a o) where
  kin := fun i x e => k i x (m.kin i x e)
  glob := m.glob.keeps k
  blt := by
    obtain ⟨mb, h1, h2⟩ := m.blt
    exact ⟨mb, h1.keeps k, h2⟩
  nolimit := by
    obtain ⟨mc, h1, h2⟩ := m.nolimit
    exact ⟨mc, h1.keeps k, h2⟩
section
variable {G : Sig} {X : Cx} {k n : Nat} {f : Addr} {fd : FuncData} {ps : List Str} {sp : Sp} {fn : Fn} {Wx : WX} {x : Str} {p pos : Pos} {e : Expr} {es : List Expr} {fr : EA} {a : Addr} {oe : Obj}
theorem env0_pin {pins : List (Addr × Obj)} {σ : L2.St} {H : Hp} {s : Shared} (I : Inv X pins σ H s) (hp : (a, oe) ∈ X.pn ++ pins) : Env0 X.prog X.w X.K X.mg (baseX X.base a oe) X.A X.stack s H := by
  obtain ⟨h1, h2, h3, h4, h5⟩ := I.pin (a, oe) hp
  have e := I.env0
  have ho : ∃ h : Heap, h.get? a = some oe := ⟨s.heap, h1⟩
  have kp : ∀ i x, X.base.get? i = some x → (baseX X.base a oe).get? i = some x := fun i x q => by
    rw [baseX_get ho]
    by_cases c : i = a
    · subst c
      rw [if_pos rfl]
      have := (e.bs i x q).1
      rw [h1] at this
      exact this
    · rw [if_neg c]
      exact q
  refine ⟨e.frames, mod_baseX kp e.mod, fun i x q => ?_, ?_, ff_baseX ho e.funs fun z => ?_, e.frf, e.hok, e.bare⟩
  · rw [baseX_get ho] at q
    by_cases c : i = a
    · subst c
      rw [if_pos rfl] at q
      cases q
      exact ⟨h1, h2⟩
    · rw [if_neg c] at q
      exact e.bs i x q
  · rw [baseX_size]
    have l := Heap.lt_size h1
    have b := e.bsz
    exact Nat.max_le.mpr ⟨b, l⟩
  · rcases List.mem_cons.mp (I.stkSub a z) with c | c
    · exact h3 c
    · exact h4 c
theorem run_fgB {pins : List (Addr × Obj)} {σ : L2.St} {H : Hp} {s : Shared} {Q : VK} {us : List Value} {vs : List V} (hp : (a, oe) ∈ X.pn) (F : FG X.prog X.w X.K X.mg (baseX X.base a oe) k f fd ps sp) (hr : Room k X.A) (hgd : X.A.guards = some []) (hb : Binds X.K fd ps []) (tk : Takes X Wx)
    (I : Inv X pins σ H s) (r : Vals vs us) (h : sp vs H Q (WE Wx σ)) : wpAny (model X.prog X.w) X.A (call (.ref f) us) (EP X pins σ Q) X.xe s := by
  have hl : us.length = ps.length := by
    rw [← r.length]
    exact F.len _ _ _ _ h
  have b := hb s us I.kIn (by rw [List.append_nil]; exact hl)
  rw [List.append_nil] at b
  refine wpAny_call (codeAny_mono (F.run X.A X.stack s H ⟨us, []⟩ us vs Q (WE Wx σ) hr hgd (env0_pin I (List.mem_append_left _ hp)) b r h) fun z s' hq => ?_)
  match z, hq with
  | .error er, hq => exact passAt tk σ pins H s er s' I hq
  | .ok (.ret u), hq => exact I.after hq
theorem ge_callP (hp : (a, oe) ∈ X.pn) (Cg : X.A.guards = some []) (F : FG X.prog X.w X.K X.mg (baseX X.base a oe) k f fd ps (spG G X.K n fn)) (hr : Room k X.A) (hg : Gl X x) (hm : X.mg x = some (.ref f)) (hk : PySem.W.keepIn X.K (.ref f) = true) (hb : Binds X.K fd ps [])
    (ha : GA G X (e :: es) fr) (hdb : (x == ("__debug__" : Str)) = false := by decide) (he : starEach (e :: es) X.env = (false, eval e X.env) :: starEach es X.env := by rfl) (hpl : (backTo pos (starEach es X.env)).any (·.1) = false := by rfl) :
    GE G X (.Call (.Name x p) (e :: es) [] pos) (xCall n fn fr) := by
  intro Wx tk
  refine ⟨fun pins s σ H Q I h => wpAny_Call_Name_kw (ld_glob I hg hm ?_ hdb)⟩
  obtain ⟨ρ, S, W, E, R, h⟩ := h
  have h' := tA_of (Q' := fun vs H1 => spG G X.K n fn vs H1 Q (WE Wx σ)) pkE E R h fun ds S1 vs H1 W1 T1 E1 R1 r1 h1 => by
    split at h1
    · rename_i hl
      exact spG_of R1 r1 hl h1
    · exact h1.elim
  refine PySem.W.callWith_K (h₀ := X.base) I.ok.mod.kin hk
    (thn ((ha Wx tk).run pos pins s σ H _ I h') fun us s1 ⟨vs, H1, I1, r, q⟩ => ⟨I1.kIn, ?_⟩) he hpl
  exact run_fgB hp F hr Cg hb tk I1 r q
end
end EV

/-! E29: e.value and isinstance(e, ..) in a def that is called with the error: its object lies in the base heap. -/
namespace EV
open PySem PySem.Spec PyProof.Rows L2
section
variable {G : Sig} {X : Cx} {a dd : Addr} {ec : Nat} {ed : D} {oe : Obj} {i : Nat} {n : Str} {p pos p0 pt : Pos}
theorem baseX_self {b : Heap} {a : Addr} {o : Obj} (hf : ∃ vs, o.data = .fields vs) : (baseX b a o).get? a = some o := by
  obtain ⟨vs, hd⟩ := hf
  have e := baseX_at (b := b) (a := a) (o := o) a
  rw [if_pos (Nat.lt_of_lt_of_le (Nat.lt_succ_self a) (Nat.le_max_right ..)), if_pos rfl] at e
  unfold Heap.get?
  rw [e]
  obtain ⟨o1, o2, o3, o4⟩ := o
  dsimp only at hd
  subst hd
  rfl
theorem pe_xfB {X : Cx} {a C : Addr} {oe : Obj} {cls : Value} {d : Option Addr} {e : Expr} {te : TE} {pos : Pos} {n : Str} (hbs : X.base.get? a = some oe) (T : XfC X.K C) (hno : PySem.W.findIn X.K (.ref C) n = some none)
    (hz : Zc cls d oe) (hf : ∃ vs, oe.data = .fields vs) (he : PE X e te) (hb : attributeBase e n X.env (eval e X.env) = eval e X.env := by rfl) : PE X (.Attribute e n pos) (tXf a cls d C n te) := by
  refine ⟨fun pins s σ H Q I h => attr_of hb (thn (he.run pins s σ H _ I h) fun u s1 hh => ?_)⟩
  obtain ⟨x, H1, I1, rx, rfl, rfl, dd, fs, v, rfl, ea, l, q⟩ := hh
  obtain rfl : u = Value.ref a := rx
  have ha := (I1.env0.bs a oe hbs).1
  obtain ⟨vs, hd⟩ := hf
  obtain ⟨mA, hns, hr⟩ : ObjOk X.prog X.w H1 s1.heap dd (.xd fs) := I1.hok dd _ ea
  obtain ⟨od, ho, hl⟩ := lookIn_ns hns
  obtain ⟨u, hu, ru⟩ := RelO.some_of (v := v) (o := mA n) (by rw [← l]; exact hr n)
  have J : PySem.W.InstAt s1.heap a oe C (some od) := ⟨ha, hz.1, by unfold PySem.W.notCls; rw [hd] <;> rfl, by rw [hz.2]; exact ho⟩
  exact HandSPX.exc_get I1.kIn J T.ga T.gg T.exC (PySem.W.findObj_own T.hdC hno rfl (by rw [hl, hu])) (handed_of ru) ⟨v, H1, I1.tok _, ru, q⟩
theorem ge_errvB (hbs : X.base.get? a = some oe) (Z : ErrC X.K (G.cls ec)) (hz : Zc (.ref (G.cls ec)) (some dd) oe) (hf : ∃ vs, oe.data = .fields vs) (hi : X.N[i]? = some n) (hv : Vis X.env.scope n) (hd : (n == ("__debug__" : Str)) = false := by decide) (hcd : (n == ("__classdict__" : Str)) = false := by decide)
    (hb : attributeBase (.Name n p) "value" X.env (eval (.Name n p) X.env) = eval (.Name n p) X.env := by rfl) : GE (sigE G X.K a dd ec ed) X (.Attribute (.Name n p) "value" pos) (xErV i) := by
  intro Wx tk
  refine pe_imp (pe_xfB (X := X) hbs (a := a) (C := G.cls ec) (cls := .ref (G.cls ec)) (d := some dd) ⟨Z.ga, Z.gg, Z.sub, Z.hd⟩ Z.nv hz hf (pe_var (X := X) (i := i) hi hv hd hcd) hb) ?_
  rintro σ H Q ⟨ρ, S, W, E, R, h⟩
  unfold xErV at h
  split at h
  · rename_i c d e1
    obtain ⟨v, q1, q2⟩ := E.2 i _ e1
    cases q2 with
    | @err b _ _ hE =>
      obtain ⟨rfl, rfl, rfl, _, v0, h1, h2⟩ := R.er b c d hE
      exact ⟨_, q1, rfl, rfl, dd, _, v0, rfl, R.fr _ _ h1, rfl, h v0 H W (.refl _ _) R h2⟩
  · exact h.elim
theorem call_isXB {C : Addr} (hbs : X.base.get? a = some oe) (Z : ErrC X.K C) (hz : Zc (.ref C) (some dd) oe) (hf : ∃ vs, oe.data = .fields vs) : CallR X (.builtin "isinstance") (rIsX X.K C a dd) := by
  intro pins s σ H xs us Q I r h
  obtain ⟨fs, c, b, hdd, rfl, q, h⟩ := h
  have ha := (I.env0.bs a oe hbs).1
  obtain ⟨vs, hd⟩ := hf
  have hx : ObjOk X.prog X.w H s.heap dd (.xd fs) := I.hok dd _ hdd
  obtain ⟨mA, hns, hr⟩ := hx
  obtain ⟨od, ho, hl⟩ := lookIn_ns hns
  have J : PySem.W.InstAt s.heap a oe C (some od) := ⟨ha, hz.1, by unfold PySem.W.notCls; rw [hd] <;> rfl, by rw [hz.2]; exact ho⟩
  have kx := PySem.W.kitx_exc (K := X.K) (x := a) (ox := oe) (od := some od) Z.cl Z.ga Z.gg Z.sub Z.ha Z.hn Z.ht Z.hm
  cases r with
  | cons rx rr =>
    cases rr with
    | cons rt rr =>
      cases rr
      cases rx
      rcases h with ⟨cv, hcv, e⟩ | ⟨tp, cs, cvs, rfl, htp, hcv, e⟩
      · have ec := hcv _ rt
        subst ec
        exact PySem.W.kia_one kx I.kIn J e (fun z => nomatch z) fun tk => ⟨.bl b, H, I.kept (t' := tk) fun _ _ z => z, rfl, q⟩
      · cases rt
        obtain ⟨its, rv, ⟨o, h1, h2, m, h3⟩, _⟩ := I.tuple (a := tp) (xs := cs) (.inl (.inl htp))
        have ec := hcv _ rv
        subst ec
        obtain ⟨oc, od', oda, osl⟩ := o
        dsimp only at h2 h3
        subst h2 h3
        exact PySem.W.kia_tup kx I.kIn J h1 e (fun z => nomatch z) fun tk => ⟨.bl b, H, I.kept (t' := tk) fun _ _ z => z, rfl, q⟩
theorem ge_isEB {f : Nat → Bool} {c : Expr} {v : V} {cv : Value} (hbs : X.base.get? a = some oe) (Z : ErrC X.K (G.cls ec)) (hz : Zc (.ref (G.cls ec)) (some dd) oe) (hf : ∃ vs, oe.data = .fields vs) (hg : Gl X "isinstance") (hm : X.mg "isinstance" = none) (hi : X.N[i]? = some n) (hv : Vis X.env.scope n)
    (hc : PE X c (tC v)) (hcv : ∀ u, RelV v u → u = cv) (hk : PySem.W.kitOne X.K (.ref (G.cls ec)) cv = some (f ec)) (hd : (n == ("__debug__" : Str)) = false := by decide) (hcd : (n == ("__classdict__" : Str)) = false := by decide)
    (h1 : starEach [.Name n p, c] X.env = (false, eval (.Name n p) X.env) :: starEach [c] X.env := by rfl) (h2 : starEach [c] X.env = (false, eval c X.env) :: starEach [] X.env := by rfl) (hpl : (backTo pos (starEach [c] X.env)).any (·.1) = false := by rfl) :
    GE (sigE G X.K a dd ec ed) X (.Call (.Name "isinstance" p0) [.Name n p, c] [] pos) (xIsE i f) := by
  intro Wx tk
  refine pe_imp (pe_callB (X := X) (call_isXB hbs Z hz hf) hg hm (by decide +kernel) (pa_cons (pe_var (X := X) (i := i) hi hv hd hcd) (pa_cons hc pa_nil h2) h1) (by decide) (by decide) h1 hpl) ?_
  rintro σ H Q ⟨ρ, S, W, E, R, h⟩
  unfold xIsE at h
  split at h
  · rename_i c' d e1
    obtain ⟨u, q1, q2⟩ := E.2 i _ e1
    cases q2 with
    | @err b _ _ hE =>
      obtain ⟨rfl, rfl, rfl, _, v0, g1, g2⟩ := R.er b c' d hE
      exact ⟨_, q1, _, _, _, R.fr _ _ g1, rfl, h _ H W (.refl _ _) R (.bl _), .inl ⟨cv, hcv, hk⟩⟩
  · exact h.elim
theorem ge_isTB {f : Nat → Bool} {es : List Expr} {tx : Nat} {cs : List V} {cvs : List Value} (hbs : X.base.get? a = some oe) (Z : ErrC X.K (G.cls ec)) (hz : Zc (.ref (G.cls ec)) (some dd) oe) (hf : ∃ vs, oe.data = .fields vs) (hg : Gl X "isinstance") (hm : X.mg "isinstance" = none) (hi : X.N[i]? = some n) (hv : Vis X.env.scope n)
    (hc : PA X es (tVs cs)) (hl : cs.length ≤ 1000) (hcv : ∀ us, Vals cs us → us = cvs) (hk : PySem.W.kitAny X.K (.ref (G.cls ec)) cvs = some (f ec)) (hd : (n == ("__debug__" : Str)) = false := by decide) (hcd : (n == ("__classdict__" : Str)) = false := by decide)
    (h1 : starEach [.Name n p, .Tuple es tx pt] X.env = (false, eval (.Name n p) X.env) :: starEach [.Tuple es tx pt] X.env := by rfl) (h2 : starEach [.Tuple es tx pt] X.env = (false, eval (.Tuple es tx pt) X.env) :: starEach [] X.env := by rfl)
    (hpl : (backTo pos (starEach [.Tuple es tx pt] X.env)).any (·.1) = false := by rfl) :
    GE (sigE G X.K a dd ec ed) X (.Call (.Name "isinstance" p0) [.Name n p, .Tuple es tx pt] [] pos) (xIsE i f) := by
  intro Wx tk
  refine pe_imp (pe_callB (X := X) (call_isXB hbs Z hz hf) hg hm (by decide +kernel) (pa_cons (pe_var (X := X) (i := i) hi hv hd hcd) (pa_cons (pe_tup hc) pa_nil h2) h1) (by decide) (by decide) h1 hpl) ?_
  rintro σ H Q ⟨ρ, S, W, E, R, h⟩
  unfold xIsE at h
  split at h
  · rename_i c' d e1
    obtain ⟨u, q1, q2⟩ := E.2 i _ e1
    cases q2 with
    | @err b _ _ hE =>
      obtain ⟨rfl, rfl, rfl, _, v0, g1, g2⟩ := R.er b c' d hE
      refine ⟨.ref b, q1, by rw [sizeLine_eq]; omega, fun q hq => ?_⟩
      obtain ⟨T2, R2, _⟩ := R.new hq (.tup cs)
      have g3 := R.fr _ _ g1
      have g4 : upd H q (.tup cs) dd = some (.xd [("value", v0)]) := by
        rw [upd_ne (ne_of_none g3 hq)]
        exact g3
      exact ⟨[("value", v0)], .ref q, f c', g4, rfl, h _ _ W T2 R2 (.bl _), .inr ⟨q, cs, cvs, rfl, upd_same, hcv, hk⟩⟩
  · exact h.elim
end
end EV

/-! E30: a def of the text that is called in an except suite, with the error that the suite holds. -/
namespace EV
open PySem PySem.Spec PyProof.Rows L2
/-- as FG, while an exception is handled: its object p stands -/
structure FGH (P : Program) (w : World) (K : PySem.W.Frag) (mg : Str → Option Value) (base : Heap) (k : Nat) (f : Addr) (fd : FuncData) (ps : List Str) (sp : Sp) (p : Addr × Obj) : Prop where
  len : ∀ vs H Q E, sp vs H Q E → vs.length = ps.length
  run : ∀ (A : Around) (fs : List Env) (s : Shared) (H : Hp) (args : Args) (us : List Value) (vs : List V) (Q : VK) (E : XK), L2H.RoomH k A → A.guards = some [] → L2H.PinOk fs H s p → Env0 P w K mg base A fs s H → BindsTo s fd args (ps.zip us) → Vals vs us → sp vs H Q E →
    codeAny (model P w) A (.call (.ref f) args) (CR (L2.CX P w) fs P w H s Q E) s
/-- what the body's rules need -/
structure CtxS (X : Cx) : Prop where
  grd : X.A.guards = some []
  nd : X.N.Nodup
  un : X.A.units + 150 < cLine
theorem roomH_suite {j k : Nat} {A : Around} {h : Option Value} (r : Room k A) (l : j ≤ k) : L2H.RoomH j (A.mark h) :=
  ⟨((L2H.roomH_of r).mono l).dp, ((L2H.roomH_of r).mono l).un⟩
theorem fgH_of {P : Program} {w : World} {K : PySem.W.Frag} {mg : Str → Option Value} {base : Heap} {G : Sig} {x qual : Str} {st : Stmt} {f : Addr} {fd : FuncData} {N ps : List Str} {k : Nat} {g : ES} {p : Addr × Obj} (F : Fun K x qual st f fd) (S : FnScope N ps (defScope st))
    (hbody : ∀ (cdv : Value) (A : Around) (fs : List Env) (s : Shared) (H : Hp) (E : XK), CtxS (L2H.cxH (L2.CX P w) P w K mg base N qual (defScope st) f cdv A fs s H E p) →
      GB G (L2H.cxH (L2.CX P w) P w K mg base N qual (defScope st) f cdv A fs s H E p) (defBody st) g) :
    FGH P w K mg base (k + 1) f fd ps (spG G K ps.length (fnOf ps.length N.length g)) p := by
  obtain ⟨oc, od, kV, doc, pm, an, cdv, ct, osl, rfl, lk, hcd⟩ := F.ex
  have len : ∀ vs H Q E, spG G K ps.length (fnOf ps.length N.length g) vs H Q E → vs.length = ps.length := by
    rintro vs H Q E ⟨ds, S0, W, r, hl, _⟩
    rw [← r.length]; exact hl
  refine ⟨len, fun A fs s H args us vs Q E hr hgd hpin e0 hb rv hsp => ?_⟩
  have hl := len _ _ _ _ hsp
  have kx : K.In s.heap :=
    e0.mod.kin.keeps fun b o e => (e0.bs b o e).1
  have lm : s.heap.NoLimit :=
    e0.mod.nolimit.keeps fun b o e => (e0.bs b o e).1
  have hkd : ∀ y ∈ ps.zip us, (defScope st).names.lookup y.1 = some .local ∨
      ((defScope st).names.lookup y.1 = some .cell ∧ ((cellsFrom (s.heap.objs.size + 1) (defScope st).names []).lookup y.1).isSome = true) := fun ⟨n, v⟩ hy => by
    rcases S.par n (List.of_mem_zip hy).1 with z | z
    · exact .inl z
    · exact .inr ⟨z, PySem.W.cellsFrom_some _ _ _ (.inl z)⟩
  refine codeAny_call_function hr.depth (kx _ _ lk) rfl S.co S.gen rfl (PySem.W.codeRec_of kx hcd) (hb _ _ _ _
    (wpAny_newFunctionEnv_cells S.kind hkd fun env he s1 hx => ?_))
  subst he
  refine ⟨lm.keeps hx.toInCall.keep, codeAny_func ?_⟩
  have hr' := hr.deeper (envOfC qual (defScope st) s.heap.objs.size f cdv)
  have I : Inv (L2H.cxH (L2.CX P w) P w K mg base N qual (defScope st) f cdv A fs s H E p) [] (L2.start N vs) H s1 :=
    L2H.inv_startH S hpin e0 hl rv hx
  obtain ⟨ds, S0, W, r, hdl, R, post⟩ := hsp
  unfold fnOf at post
  rw [if_pos hdl] at post
  have RE0 : RE K W (ds.map some ++ List.replicate (N.length - ps.length) none) (L2.start N vs) := by
    rw [← hdl]; exact reStart r
  have un : CtxS (L2H.cxH (L2.CX P w) P w K mg base N qual (defScope st) f cdv A fs s H E p) := ⟨hgd, S.nd, by
    have := hr'.un
    show (A.deeper _).units + 150 < cLine
    omega⟩
  have body := (hbody cdv A fs s H E un _ (takes_of rfl rfl rfl rfl)).run [] s1 (L2.start N vs) H { nx := fun _ H' => Q .non H', rt := Q } I ⟨_, S0, W, RE0, R, Stp.toOut post⟩
  refine wpAny_mono body (fun fl s' hs => ?_) fun e s' hs => hs
  cases fl with
  | ret u =>
    obtain ⟨v, σ', H', J, rv', q⟩ := hs
    exact ⟨v, H', J.os, J.bare, J.base, J.hok, rv', q⟩
  | next =>
    obtain ⟨σ', H', J, q⟩ := hs
    exact ⟨.non, H', J.os, J.bare, J.base, J.hok, rfl, q⟩
  | brk =>
    obtain ⟨_, _, _, q⟩ := hs
    exact q.elim
  | cont =>
    obtain ⟨_, _, _, q⟩ := hs
    exact q.elim
section
variable {G : Sig} {X : Cx} {k n : Nat} {f : Addr} {fd : FuncData} {ps : List Str} {sp : Sp} {fn : Fn} {Wx : WX} {x : Str} {p pos : Pos} {e : Expr} {es : List Expr} {fr : EA} {a : Addr} {oe : Obj}
theorem run_fgH {pins : List (Addr × Obj)} {σ : L2.St} {H : Hp} {s : Shared} {Q : VK} {us : List Value} {vs : List V} (hp : (a, oe) ∈ X.pn) (F : FGH X.prog X.w X.K X.mg X.base k f fd ps sp (a, oe)) (hr : L2H.RoomH k X.A) (hgd : X.A.guards = some []) (hb : Binds X.K fd ps []) (tk : Takes X Wx)
    (I : Inv X pins σ H s) (r : Vals vs us) (h : sp vs H Q (WE Wx σ)) : wpAny (model X.prog X.w) X.A (call (.ref f) us) (EP X pins σ Q) X.xe s := by
  have hl : us.length = ps.length := by
    rw [← r.length]
    exact F.len _ _ _ _ h
  have b := hb s us I.kIn (by rw [List.append_nil]; exact hl)
  rw [List.append_nil] at b
  have P1 := I.pin (a, oe) (List.mem_append_left _ hp)
  have hpin : L2H.PinOk X.stack H s (a, oe) := ⟨P1.1, P1.2.1, fun hm => (List.mem_cons.mp (I.stkSub a hm)).elim P1.2.2.1 P1.2.2.2.1, P1.2.2.2.2⟩
  refine wpAny_call (codeAny_mono (F.run X.A X.stack s H ⟨us, []⟩ us vs Q (WE Wx σ) hr hgd hpin I.env0 b r h) fun z s' hq => ?_)
  match z, hq with
  | .error er, hq => exact passAt tk σ pins H s er s' I hq
  | .ok (.ret u), hq => exact I.after hq
theorem ge_callH (hp : (a, oe) ∈ X.pn) (Cg : X.A.guards = some []) (F : FGH X.prog X.w X.K X.mg X.base k f fd ps (spG G X.K n fn) (a, oe)) (hr : L2H.RoomH k X.A) (hg : Gl X x) (hm : X.mg x = some (.ref f)) (hk : PySem.W.keepIn X.K (.ref f) = true) (hb : Binds X.K fd ps [])
    (ha : GA G X (e :: es) fr) (hdb : (x == ("__debug__" : Str)) = false := by decide) (he : starEach (e :: es) X.env = (false, eval e X.env) :: starEach es X.env := by rfl) (hpl : (backTo pos (starEach es X.env)).any (·.1) = false := by rfl) :
    GE G X (.Call (.Name x p) (e :: es) [] pos) (xCall n fn fr) := by
  intro Wx tk
  refine ⟨fun pins s σ H Q I h => wpAny_Call_Name_kw (ld_glob I hg hm ?_ hdb)⟩
  obtain ⟨ρ, S, W, E, R, h⟩ := h
  have h' := tA_of (Q' := fun vs H1 => spG G X.K n fn vs H1 Q (WE Wx σ)) pkE E R h fun ds S1 vs H1 W1 T1 E1 R1 r1 h1 => by
    split at h1
    · rename_i hl
      exact spG_of R1 r1 hl h1
    · exact h1.elim
  refine PySem.W.callWith_K (h₀ := X.base) I.ok.mod.kin hk
    (thn ((ha Wx tk).run pos pins s σ H _ I h') fun us s1 ⟨vs, H1, I1, r, q⟩ => ⟨I1.kIn, ?_⟩) he hpl
  exact run_fgH hp F hr Cg hb tk I1 r q
end
section
variable {G : Sig} {X : Cx} {a dd : Addr} {ec : Nat} {ed : D} {oe : Obj} {i : Nat} {n : Str} {p pos p0 pt : Pos}
theorem pe_xfP {X : Cx} {a C : Addr} {oe : Obj} {cls : Value} {d : Option Addr} {e : Expr} {te : TE} {pos : Pos} {n : Str} (hp : (a, oe) ∈ X.pn) (T : XfC X.K C) (hno : PySem.W.findIn X.K (.ref C) n = some none)
    (hz : Zc cls d oe) (hf : ∃ vs, oe.data = .fields vs) (he : PE X e te) (hb : attributeBase e n X.env (eval e X.env) = eval e X.env := by rfl) : PE X (.Attribute e n pos) (tXf a cls d C n te) := by
  refine ⟨fun pins s σ H Q I h => attr_of hb (thn (he.run pins s σ H _ I h) fun u s1 hh => ?_)⟩
  obtain ⟨x, H1, I1, rx, rfl, rfl, dd, fs, v, rfl, ea, l, q⟩ := hh
  obtain rfl : u = Value.ref a := rx
  have ha := (I1.pin (a, oe) (List.mem_append_left _ hp)).1
  obtain ⟨vs, hd⟩ := hf
  obtain ⟨mA, hns, hr⟩ : ObjOk X.prog X.w H1 s1.heap dd (.xd fs) := I1.hok dd _ ea
  obtain ⟨od, ho, hl⟩ := lookIn_ns hns
  obtain ⟨u, hu, ru⟩ := RelO.some_of (v := v) (o := mA n) (by rw [← l]; exact hr n)
  have J : PySem.W.InstAt s1.heap a oe C (some od) := ⟨ha, hz.1, by unfold PySem.W.notCls; rw [hd] <;> rfl, by rw [hz.2]; exact ho⟩
  exact HandSPX.exc_get I1.kIn J T.ga T.gg T.exC (PySem.W.findObj_own T.hdC hno rfl (by rw [hl, hu])) (handed_of ru) ⟨v, H1, I1.tok _, ru, q⟩
theorem ge_errvP (hp : (a, oe) ∈ X.pn) (Z : ErrC X.K (G.cls ec)) (hz : Zc (.ref (G.cls ec)) (some dd) oe) (hf : ∃ vs, oe.data = .fields vs) (hi : X.N[i]? = some n) (hv : Vis X.env.scope n) (hd : (n == ("__debug__" : Str)) = false := by decide) (hcd : (n == ("__classdict__" : Str)) = false := by decide)
    (hb : attributeBase (.Name n p) "value" X.env (eval (.Name n p) X.env) = eval (.Name n p) X.env := by rfl) : GE (sigE G X.K a dd ec ed) X (.Attribute (.Name n p) "value" pos) (xErV i) := by
  intro Wx tk
  refine pe_imp (pe_xfP (X := X) hp (a := a) (C := G.cls ec) (cls := .ref (G.cls ec)) (d := some dd) ⟨Z.ga, Z.gg, Z.sub, Z.hd⟩ Z.nv hz hf (pe_var (X := X) (i := i) hi hv hd hcd) hb) ?_
  rintro σ H Q ⟨ρ, S, W, E, R, h⟩
  unfold xErV at h
  split at h
  · rename_i c d e1
    obtain ⟨v, q1, q2⟩ := E.2 i _ e1
    cases q2 with
    | @err b _ _ hE =>
      obtain ⟨rfl, rfl, rfl, _, v0, h1, h2⟩ := R.er b c d hE
      exact ⟨_, q1, rfl, rfl, dd, _, v0, rfl, R.fr _ _ h1, rfl, h v0 H W (.refl _ _) R h2⟩
  · exact h.elim
theorem call_isXP {C : Addr} (hp : (a, oe) ∈ X.pn) (Z : ErrC X.K C) (hz : Zc (.ref C) (some dd) oe) (hf : ∃ vs, oe.data = .fields vs) : CallR X (.builtin "isinstance") (rIsX X.K C a dd) := by
  intro pins s σ H xs us Q I r h
  obtain ⟨fs, c, b, hdd, rfl, q, h⟩ := h
  have ha := (I.pin (a, oe) (List.mem_append_left _ hp)).1
  obtain ⟨vs, hd⟩ := hf
  have hx : ObjOk X.prog X.w H s.heap dd (.xd fs) := I.hok dd _ hdd
  obtain ⟨mA, hns, hr⟩ := hx
  obtain ⟨od, ho, hl⟩ := lookIn_ns hns
  have J : PySem.W.InstAt s.heap a oe C (some od) := ⟨ha, hz.1, by unfold PySem.W.notCls; rw [hd] <;> rfl, by rw [hz.2]; exact ho⟩
  have kx := PySem.W.kitx_exc (K := X.K) (x := a) (ox := oe) (od := some od) Z.cl Z.ga Z.gg Z.sub Z.ha Z.hn Z.ht Z.hm
  cases r with
  | cons rx rr =>
    cases rr with
    | cons rt rr =>
      cases rr
      cases rx
      rcases h with ⟨cv, hcv, e⟩ | ⟨tp, cs, cvs, rfl, htp, hcv, e⟩
      · have ec := hcv _ rt
        subst ec
        exact PySem.W.kia_one kx I.kIn J e (fun z => nomatch z) fun tk => ⟨.bl b, H, I.kept (t' := tk) fun _ _ z => z, rfl, q⟩
      · cases rt
        obtain ⟨its, rv, ⟨o, h1, h2, m, h3⟩, _⟩ := I.tuple (a := tp) (xs := cs) (.inl (.inl htp))
        have ec := hcv _ rv
        subst ec
        obtain ⟨oc, od', oda, osl⟩ := o
        dsimp only at h2 h3
        subst h2 h3
        exact PySem.W.kia_tup kx I.kIn J h1 e (fun z => nomatch z) fun tk => ⟨.bl b, H, I.kept (t' := tk) fun _ _ z => z, rfl, q⟩
theorem ge_isEP {f : Nat → Bool} {c : Expr} {v : V} {cv : Value} (hp : (a, oe) ∈ X.pn) (Z : ErrC X.K (G.cls ec)) (hz : Zc (.ref (G.cls ec)) (some dd) oe) (hf : ∃ vs, oe.data = .fields vs) (hg : Gl X "isinstance") (hm : X.mg "isinstance" = none) (hi : X.N[i]? = some n) (hv : Vis X.env.scope n)
    (hc : PE X c (tC v)) (hcv : ∀ u, RelV v u → u = cv) (hk : PySem.W.kitOne X.K (.ref (G.cls ec)) cv = some (f ec)) (hd : (n == ("__debug__" : Str)) = false := by decide) (hcd : (n == ("__classdict__" : Str)) = false := by decide)
    (h1 : starEach [.Name n p, c] X.env = (false, eval (.Name n p) X.env) :: starEach [c] X.env := by rfl) (h2 : starEach [c] X.env = (false, eval c X.env) :: starEach [] X.env := by rfl) (hpl : (backTo pos (starEach [c] X.env)).any (·.1) = false := by rfl) :
    GE (sigE G X.K a dd ec ed) X (.Call (.Name "isinstance" p0) [.Name n p, c] [] pos) (xIsE i f) := by
  intro Wx tk
  refine pe_imp (pe_callB (X := X) (call_isXP hp Z hz hf) hg hm (by decide +kernel) (pa_cons (pe_var (X := X) (i := i) hi hv hd hcd) (pa_cons hc pa_nil h2) h1) (by decide) (by decide) h1 hpl) ?_
  rintro σ H Q ⟨ρ, S, W, E, R, h⟩
  unfold xIsE at h
  split at h
  · rename_i c' d e1
    obtain ⟨u, q1, q2⟩ := E.2 i _ e1
    cases q2 with
    | @err b _ _ hE =>
      obtain ⟨rfl, rfl, rfl, _, v0, g1, g2⟩ := R.er b c' d hE
      exact ⟨_, q1, _, _, _, R.fr _ _ g1, rfl, h _ H W (.refl _ _) R (.bl _), .inl ⟨cv, hcv, hk⟩⟩
  · exact h.elim
theorem ge_isTP {f : Nat → Bool} {es : List Expr} {tx : Nat} {cs : List V} {cvs : List Value} (hp : (a, oe) ∈ X.pn) (Z : ErrC X.K (G.cls ec)) (hz : Zc (.ref (G.cls ec)) (some dd) oe) (hf : ∃ vs, oe.data = .fields vs) (hg : Gl X "isinstance") (hm : X.mg "isinstance" = none) (hi : X.N[i]? = some n) (hv : Vis X.env.scope n)
    (hc : PA X es (tVs cs)) (hl : cs.length ≤ 1000) (hcv : ∀ us, Vals cs us → us = cvs) (hk : PySem.W.kitAny X.K (.ref (G.cls ec)) cvs = some (f ec)) (hd : (n == ("__debug__" : Str)) = false := by decide) (hcd : (n == ("__classdict__" : Str)) = false := by decide)
    (h1 : starEach [.Name n p, .Tuple es tx pt] X.env = (false, eval (.Name n p) X.env) :: starEach [.Tuple es tx pt] X.env := by rfl) (h2 : starEach [.Tuple es tx pt] X.env = (false, eval (.Tuple es tx pt) X.env) :: starEach [] X.env := by rfl)
    (hpl : (backTo pos (starEach [.Tuple es tx pt] X.env)).any (·.1) = false := by rfl) :
    GE (sigE G X.K a dd ec ed) X (.Call (.Name "isinstance" p0) [.Name n p, .Tuple es tx pt] [] pos) (xIsE i f) := by
  intro Wx tk
  refine pe_imp (pe_callB (X := X) (call_isXP hp Z hz hf) hg hm (by decide +kernel) (pa_cons (pe_var (X := X) (i := i) hi hv hd hcd) (pa_cons (pe_tup hc) pa_nil h2) h1) (by decide) (by decide) h1 hpl) ?_
  rintro σ H Q ⟨ρ, S, W, E, R, h⟩
  unfold xIsE at h
  split at h
  · rename_i c' d e1
    obtain ⟨u, q1, q2⟩ := E.2 i _ e1
    cases q2 with
    | @err b _ _ hE =>
      obtain ⟨rfl, rfl, rfl, _, v0, g1, g2⟩ := R.er b c' d hE
      refine ⟨.ref b, q1, by rw [sizeLine_eq]; omega, fun q hq => ?_⟩
      obtain ⟨T2, R2, _⟩ := R.new hq (.tup cs)
      have g3 := R.fr _ _ g1
      have g4 : upd H q (.tup cs) dd = some (.xd [("value", v0)]) := by
        rw [upd_ne (ne_of_none g3 hq)]
        exact g3
      exact ⟨[("value", v0)], .ref q, f c', g4, rfl, h _ _ W T2 R2 (.bl _), .inr ⟨q, cs, cvs, rfl, upd_same, hcv, hk⟩⟩
  · exact h.elim
end
end EV

/-! M0: what a semantic function answers, by wishes: a calculus that simp can do. -/
namespace EV
open PySem PySem.Spec PyProof.Rows L2

def OkE {α : Type} (r : Res α) (Q : α → Sto → Prop) (X : Er → Sto → Prop := fun _ _ => False) : Prop := match r with
  | some (.ok a, S) => Q a S
  | some (.error e, S) => X e S
  | none => False
structure Nd where
  nx : Frm → Sto → Prop := fun _ _ => False
  rt : D → Sto → Prop := fun _ _ => False
  bk : Frm → Sto → Prop := fun _ _ => False
  ct : Frm → Sto → Prop := fun _ _ => False
  er : Er → Frm → Sto → Prop := fun _ _ _ => False
def OkS (o : Option Out) (N : Nd) : Prop := match o with
  | some (.nx ρ S) => N.nx ρ S
  | some (.rt d S) => N.rt d S
  | some (.bk ρ S) => N.bk ρ S
  | some (.ct ρ S) => N.ct ρ S
  | some (.er e ρ S) => N.er e ρ S
  | none => False
section
variable {α β : Type} {r : Res α} {k : α → Sto → Res β} {Q : β → Sto → Prop} {X : Er → Sto → Prop} {S : Sto} {N : Nd} {ρ : Frm}
@[simp] theorem okE_bnd : OkE (bnd r k) Q X ↔ OkE r (fun a S => OkE (k a S) Q X) X := by
  match r with
  | none => exact Iff.rfl
  | some (.ok a, S) => exact Iff.rfl
  | some (.error e, S) => exact Iff.rfl
@[simp] theorem okE_ok {a : β} : OkE (some (.ok a, S)) Q X ↔ Q a S := Iff.rfl
@[simp] theorem okE_er {e : Er} : OkE (some (.error e, S)) Q X ↔ X e S := Iff.rfl
@[simp] theorem okE_none : OkE none Q X ↔ False := Iff.rfl
@[simp] theorem okS_bndS {k : α → Sto → Option Out} : OkS (bndS r ρ k) N ↔ OkE r (fun a S => OkS (k a S) N) (fun e S => N.er e ρ S) := by
  match r with
  | none => exact Iff.rfl
  | some (.ok a, S) => exact Iff.rfl
  | some (.error e, S) => exact Iff.rfl
@[simp] theorem okS_nx : OkS (some (.nx ρ S)) N ↔ N.nx ρ S := Iff.rfl
@[simp] theorem okS_rt {d : D} : OkS (some (.rt d S)) N ↔ N.rt d S := Iff.rfl
@[simp] theorem okS_bk : OkS (some (.bk ρ S)) N ↔ N.bk ρ S := Iff.rfl
@[simp] theorem okS_ct : OkS (some (.ct ρ S)) N ↔ N.ct ρ S := Iff.rfl
@[simp] theorem okS_er {e : Er} : OkS (some (.er e ρ S)) N ↔ N.er e ρ S := Iff.rfl
@[simp] theorem okS_none : OkS none N ↔ False := Iff.rfl
@[simp] theorem okS_seq {g u : ES} : OkS (xSeq g u ρ S) N ↔ OkS (g ρ S) { N with nx := fun ρ1 S1 => OkS (u ρ1 S1) N } := by
  unfold xSeq
  match g ρ S with
  | none => exact Iff.rfl
  | some (.nx _ _) => exact Iff.rfl
  | some (.rt _ _) => exact Iff.rfl
  | some (.bk _ _) => exact Iff.rfl
  | some (.ct _ _) => exact Iff.rfl
  | some (.er _ _ _) => exact Iff.rfl
/-- the ends of a def's body -/
def ndF (Q : D → Sto → Prop) (X : Er → Sto → Prop) : Nd := { nx := fun _ S => Q .non S, rt := Q, er := fun e _ S => X e S }
@[simp] theorem ndF_nx {Q : D → Sto → Prop} : (ndF Q X).nx = fun _ S => Q .non S := rfl
@[simp] theorem ndF_rt {Q : D → Sto → Prop} : (ndF Q X).rt = Q := rfl
@[simp] theorem ndF_bk {Q : D → Sto → Prop} : (ndF Q X).bk = fun _ _ => False := rfl
@[simp] theorem ndF_ct {Q : D → Sto → Prop} : (ndF Q X).ct = fun _ _ => False := rfl
@[simp] theorem ndF_er {Q : D → Sto → Prop} : (ndF Q X).er = fun e _ S => X e S := rfl
theorem okE_end {Q : D → Sto → Prop} {o : Option Out} : OkE (endF o) Q X ↔ OkS o (ndF Q X) := by
  match o with
  | none => exact Iff.rfl
  | some (.nx _ _) => exact Iff.rfl
  | some (.rt _ _) => exact Iff.rfl
  | some (.bk _ _) => exact Iff.rfl
  | some (.ct _ _) => exact Iff.rfl
  | some (.er _ _ _) => exact Iff.rfl
theorem okE_fn {Q : D → Sto → Prop} {n m : Nat} {g : ES} {ds : List D} (hl : ds.length = n) (h : OkS (g (ds.map some ++ List.replicate (m - n) none) S) (ndF Q X)) : OkE (fnOf n m g ds S) Q X := by
  unfold fnOf
  rw [if_pos hl, okE_end]
  exact h
theorem OkE.imp {r : Res β} {Q' : β → Sto → Prop} {X' : Er → Sto → Prop} (h : OkE r Q X) (q : ∀ a S, Q a S → Q' a S) (x : ∀ e S, X e S → X' e S) : OkE r Q' X' := by
  match r, h with
  | some (.ok a, S), h => exact q _ _ h
  | some (.error e, S), h => exact x _ _ h
theorem OkE.im {r : Res β} {Q' : β → Sto → Prop} {X' : Er → Sto → Prop} (h : OkE r Q) (q : ∀ a S, Q a S → Q' a S) : OkE r Q' X' := h.imp q fun _ _ z => z.elim
theorem OkE.eq {r : Res β} (h : OkE r Q) : ∃ a S, r = some (.ok a, S) ∧ Q a S := by
  match r, h with
  | some (.ok a, S), h => exact ⟨a, S, rfl, h⟩
theorem okE_of {r : Res β} {a : β} (e : r = some (.ok a, S)) (q : Q a S) : OkE r Q X := by rw [e]; exact q
theorem OkS.imp {o : Option Out} {M : Nd} (h : OkS o N) (a : ∀ ρ S, N.nx ρ S → M.nx ρ S) (b : ∀ d S, N.rt d S → M.rt d S) (c : ∀ ρ S, N.bk ρ S → M.bk ρ S) (d : ∀ ρ S, N.ct ρ S → M.ct ρ S) (e : ∀ e ρ S, N.er e ρ S → M.er e ρ S) : OkS o M := by
  match o, h with
  | some (.nx _ _), h => exact a _ _ h
  | some (.rt _ _), h => exact b _ _ h
  | some (.bk _ _), h => exact c _ _ h
  | some (.ct _ _), h => exact d _ _ h
  | some (.er _ _ _), h => exact e _ _ _ h
/-- a loop: what holds at each turn -/
theorem okS_for {g : Sto → Prop} {gs : D → Frm → Sto → Option Frm} {bs : ES} (I : List D → Frm → Sto → Prop) : ∀ (ds : List D) (ρ : Frm) (S : Sto), I ds ρ S →
    (∀ d ds ρ S, I (d :: ds) ρ S → g S ∧ ∃ ρ1, gs d ρ S = some ρ1 ∧ OkS (bs ρ1 S) { N with nx := I ds, ct := I ds, bk := N.nx }) → (∀ ρ S, I [] ρ S → g S ∧ N.nx ρ S) → OkS (forLoop g gs bs ds ρ S) N
  | [], ρ, S, h, _, e => by
    unfold forLoop
    rw [if_pos (e ρ S h).1]
    exact (e ρ S h).2
  | d :: ds, ρ, S, h, s, e => by
    obtain ⟨h1, ρ1, h2, h3⟩ := s d ds ρ S h
    unfold forLoop
    rw [if_pos h1, h2]
    dsimp only
    match bs ρ1 S, h3 with
    | some (.nx ρ2 S2), h3 => exact okS_for I ds ρ2 S2 h3 s e
    | some (.ct ρ2 S2), h3 => exact okS_for I ds ρ2 S2 h3 s e
    | some (.bk ρ2 S2), h3 => exact h3
    | some (.rt _ _), h3 => exact h3
    | some (.er _ _ _), h3 => exact h3
theorem okS_forc {g : Sto → Prop} {gs : D → Frm → Sto → Option Frm} {bs : ES} {d : D} {ds : List D} {ρ ρ1 : Frm} (hg : g S) (h : gs d ρ S = some ρ1)
    (q : OkS (bs ρ1 S) { N with nx := fun ρ S => OkS (forLoop g gs bs ds ρ S) N, ct := fun ρ S => OkS (forLoop g gs bs ds ρ S) N, bk := N.nx }) : OkS (forLoop g gs bs (d :: ds) ρ S) N := by
  unfold forLoop
  rw [if_pos hg, h]
  dsimp only
  match bs ρ1 S, q with
  | some (.nx ρ2 S2), q => exact q
  | some (.ct ρ2 S2), q => exact q
  | some (.bk ρ2 S2), q => exact q
  | some (.rt _ _), q => exact q
  | some (.er _ _ _), q => exact q
theorem okS_forn {g : Sto → Prop} {gs : D → Frm → Sto → Option Frm} {bs : ES} {ρ : Frm} (hg : g S) (q : N.nx ρ S) : OkS (forLoop g gs bs [] ρ S) N := by
  unfold forLoop
  rw [if_pos hg]
  exact q
/-- a loop: what holds at each turn, by its number -/
theorem okS_idx {g : Sto → Prop} {gs : D → Frm → Sto → Option Frm} {bs : ES} (I : Nat → Frm → Sto → Prop) (ds : List D) (ρ : Frm) (S : Sto) (h0 : I 0 ρ S)
    (s : ∀ i (hi : i < ds.length) ρ S, I i ρ S → g S ∧ ∃ ρ1, gs ds[i] ρ S = some ρ1 ∧ OkS (bs ρ1 S) { N with nx := I (i + 1), ct := I (i + 1), bk := N.nx }) (e : ∀ ρ S, I ds.length ρ S → g S ∧ N.nx ρ S) : OkS (forLoop g gs bs ds ρ S) N := by
  refine okS_for (fun es ρ S => ∃ i, es = ds.drop i ∧ i ≤ ds.length ∧ I i ρ S) ds ρ S ⟨0, rfl, Nat.zero_le _, h0⟩ ?_ ?_
  · rintro d es ρ S ⟨i, hd, _, hi⟩
    have hl : i < ds.length := by
      have := congrArg List.length hd
      simp at this
      omega
    have hg : ds[i] = d ∧ es = ds.drop (i + 1) := by
      rw [List.drop_eq_getElem_cons hl] at hd
      cases hd
      exact ⟨rfl, rfl⟩
    obtain ⟨h1, ρ1, h2, h3⟩ := s i hl ρ S hi
    rw [hg.1] at h2
    exact ⟨h1, ρ1, h2, h3.imp (fun _ _ z => ⟨i + 1, hg.2, hl, z⟩) (fun _ _ z => z) (fun _ _ z => z) (fun _ _ z => ⟨i + 1, hg.2, hl, z⟩) (fun _ _ _ z => z)⟩
  · rintro ρ S ⟨i, hd, hi, h⟩
    have : ds.length = i := by
      have := congrArg List.length hd
      simp at this
      omega
    exact e ρ S (this ▸ h)
theorem okS_range {g : Sto → Prop} {gs : D → Frm → Sto → Option Frm} {bs : ES} (I : Nat → Frm → Sto → Prop) {lo : Int} {n : Nat} {ρ : Frm} {S : Sto} (h0 : I 0 ρ S)
    (s : ∀ i, i < n → ∀ ρ S, I i ρ S → g S ∧ ∃ ρ1, gs (.int (lo + (i : Nat))) ρ S = some ρ1 ∧ OkS (bs ρ1 S) { N with nx := I (i + 1), ct := I (i + 1), bk := N.nx }) (e : ∀ ρ S, I n ρ S → g S ∧ N.nx ρ S) : OkS (forLoop g gs bs (rangeD lo n) ρ S) N := by
  have hl : (rangeD lo n).length = n := by simp [rangeD]
  refine okS_idx I _ ρ S h0 (fun i hi ρ S h => ?_) (by rw [hl]; exact e)
  have : (rangeD lo n)[i] = .int (lo + (i : Nat)) := by simp [rangeD]
  rw [this]
  exact s i (by rw [← hl]; exact hi) ρ S h
theorem okS_while {ft : ET} {bs : ES} (I : Frm → Sto → Prop) (V : Frm → Sto → Nat)
    (s : ∀ ρ S, I ρ S → OkE (ft ρ S) (fun b S1 => (b = true → OkS (bs ρ S1) { N with nx := fun ρ2 S2 => I ρ2 S2 ∧ V ρ2 S2 < V ρ S, ct := fun ρ2 S2 => I ρ2 S2 ∧ V ρ2 S2 < V ρ S, bk := N.nx }) ∧ (b = false → N.nx ρ S1)) (fun e S => N.er e ρ S)) :
    ∀ (n : Nat) (ρ : Frm) (S : Sto), V ρ S < n → I ρ S → OkS (whileF ft bs n ρ S) N
  | 0, _, _, h, _ => absurd h (Nat.not_lt_zero _)
  | n + 1, ρ, S, hv, h => by
    have q := s ρ S h
    unfold whileF
    rw [okS_bndS]
    refine q.imp (fun b S1 hb => ?_) (fun _ _ z => z)
    cases b with
    | false => exact hb.2 rfl
    | true =>
      have h3 := hb.1 rfl
      rw [if_pos rfl]
      match bs ρ S1, h3 with
      | some (.nx ρ2 S2), h3 => exact okS_while I V s n ρ2 S2 (by have := h3.2; omega) h3.1
      | some (.ct ρ2 S2), h3 => exact okS_while I V s n ρ2 S2 (by have := h3.2; omega) h3.1
      | some (.bk ρ2 S2), h3 => exact h3
      | some (.rt _ _), h3 => exact h3
      | some (.er _ _ _), h3 => exact h3
theorem okS_whileV {ft : ET} {bs : ES} (I : Nat → Frm → Sto → Prop)
    (s : ∀ v ρ S, I v ρ S → OkE (ft ρ S) (fun b S1 => (b = true → OkS (bs ρ S1) { N with nx := fun ρ2 S2 => ∃ v', v' < v ∧ I v' ρ2 S2, ct := fun ρ2 S2 => ∃ v', v' < v ∧ I v' ρ2 S2, bk := N.nx }) ∧ (b = false → N.nx ρ S1)) (fun e S => N.er e ρ S)) :
    ∀ (n v : Nat) (ρ : Frm) (S : Sto), v < n → I v ρ S → OkS (whileF ft bs n ρ S) N
  | 0, _, _, _, h, _ => absurd h (Nat.not_lt_zero _)
  | n + 1, v, ρ, S, hv, h => by
    have q := s v ρ S h
    unfold whileF
    rw [okS_bndS]
    refine q.imp (fun b S1 hb => ?_) (fun _ _ z => z)
    cases b with
    | false => exact hb.2 rfl
    | true =>
      have h3 := hb.1 rfl
      rw [if_pos rfl]
      match bs ρ S1, h3 with
      | some (.nx ρ2 S2), h3 =>
        obtain ⟨v', h4, h5⟩ := h3
        exact okS_whileV I s n v' ρ2 S2 (by omega) h5
      | some (.ct ρ2 S2), h3 =>
        obtain ⟨v', h4, h5⟩ := h3
        exact okS_whileV I s n v' ρ2 S2 (by omega) h5
      | some (.bk ρ2 S2), h3 => exact h3
      | some (.rt _ _), h3 => exact h3
      | some (.er _ _ _), h3 => exact h3
/-- a comprehension -/
theorem ok_lcLoop {g : Sto → Prop} {gs : D → Frm → Sto → Option Frm} {ts : ET} {es : EX} {ρ : Frm} (I : List D → List D → Sto → Prop)
    (s : ∀ d ds ys S, I (d :: ds) ys S → g S ∧ ∃ ρ1, gs d ρ S = some ρ1 ∧ OkE (ts ρ1 S) fun b S1 => (b = true → OkE (es ρ1 S1) fun y S2 => I ds (ys ++ [y]) S2) ∧ (b = false → I ds ys S1)) (e : ∀ ys S, I [] ys S → g S) :
    ∀ (ds ys : List D) (S : Sto), I ds ys S → ∃ zs S2, lcLoop g gs ts es ds ρ S = some (zs, S2) ∧ I [] (ys ++ zs) S2
  | [], ys, S, h => ⟨[], S, by unfold lcLoop; rw [if_pos (e ys S h)], by rw [List.append_nil]; exact h⟩
  | d :: ds, ys, S, h => by
    obtain ⟨h1, ρ1, h2, h3⟩ := s d ds ys S h
    obtain ⟨b, S1, e1, h4⟩ := h3.eq
    cases b with
    | true =>
      obtain ⟨y, S2, e2, h5⟩ := (h4.1 rfl).eq
      obtain ⟨zs, S3, e3, h6⟩ := ok_lcLoop I s e ds (ys ++ [y]) S2 h5
      refine ⟨y :: zs, S3, ?_, by rw [List.append_assoc] at h6; exact h6⟩
      unfold lcLoop
      rw [if_pos h1, h2]
      dsimp only
      rw [e1]
      dsimp only
      rw [e2]
      dsimp only
      rw [e3]
    | false =>
      obtain ⟨zs, S3, e3, h6⟩ := ok_lcLoop I s e ds ys S1 (h4.2 rfl)
      refine ⟨zs, S3, ?_, h6⟩
      unfold lcLoop
      rw [if_pos h1, h2]
      dsimp only
      rw [e1]
      dsimp only
      rw [e3]
end
def noEr (r : Res D) : Res D := match r with
  | some (.ok r, S2) => some (.ok r, S2)
  | _ => none
theorem okE_noEr {r : Res D} {Q : D → Sto → Prop} {X : Er → Sto → Prop} (h : OkE r Q) : OkE (noEr r) Q X := by
  match r, h with
  | some (.ok _, _), h => exact h
section
variable {i j : Int} {n m : Nat} {x y d : D} {xs ys : List D} {S : Sto} {ρ : Frm} {k l : Bool}
@[simp] theorem u_var : xVar n ρ S = match ρ[n]? with | some (some d) => some (.ok d, S) | _ => none := rfl
@[simp] theorem u_c : xC d ρ S = some (.ok d, S) := rfl
@[simp] theorem u_bin {g : D → D → Sto → Res D} {a b : EX} : xBin g a b ρ S = bnd (a ρ S) fun x S1 => bnd (b ρ S1) fun y S2 => g x y S2 := rfl
@[simp] theorem u_un {g : D → Sto → Res D} {a : EX} : xUn g a ρ S = bnd (a ρ S) fun x S1 => g x S1 := rfl
@[simp] theorem u_cmp {g : D → D → Sto → Res Bool} {a b : EX} : xCmp g a b ρ S = bnd (a ρ S) fun x S1 => bnd (b ρ S1) fun y S2 => g x y S2 := rfl
@[simp] theorem u_bl {t : ET} : xBl t ρ S = bnd (t ρ S) fun b S1 => some (.ok (.bl b), S1) := rfl
def toB : D → Sto → Res Bool
  | .bl b, S => some (.ok b, S)
  | _, _ => none
@[simp] theorem u_toB : toB (.bl k) S = some (.ok k, S) := rfl
@[simp] theorem u_ts {a : EX} : xTs a ρ S = bnd (a ρ S) toB := by
  unfold xTs
  exact congrArg _ (funext fun x => funext fun S => by cases x <;> rfl)
@[simp] theorem u_and {t u : ET} : xAnd t u ρ S = bnd (t ρ S) fun b S1 => if b then u ρ S1 else some (.ok false, S1) := rfl
@[simp] theorem u_or {t u : ET} : xOr t u ρ S = bnd (t ρ S) fun b S1 => if b then some (.ok true, S1) else u ρ S1 := rfl
@[simp] theorem u_not {t : ET} : xNot t ρ S = bnd (t ρ S) fun b S1 => some (.ok (!b), S1) := rfl
@[simp] theorem u_if {t : ET} {a b : EX} : xIf t a b ρ S = bnd (t ρ S) fun c S1 => if c then a ρ S1 else b ρ S1 := rfl
@[simp] theorem u_nil : xNil ρ S = some (.ok [], S) := rfl
@[simp] theorem u_cons {a : EX} {r : EA} : xCons a r ρ S = bnd (a ρ S) fun x S1 => bnd (r ρ S1) fun xs S2 => some (.ok (x :: xs), S2) := rfl
def chkT (xs : List D) (S : Sto) : Res D := if xs.length ≤ cap then some (.ok (.tup xs), S) else none
def chkL (xs : List D) (S : Sto) : Res (List D) := if xs.length ≤ cap then some (.ok xs, S) else none
@[simp] theorem u_tup {r : EA} : xTup r ρ S = bnd (r ρ S) chkT := rfl
@[simp] theorem u_lst {r : EA} : xLst r ρ S = bnd (r ρ S) chkL := rfl
theorem chkT_of (h : xs.length ≤ cap) : chkT xs S = some (.ok (.tup xs), S) := if_pos h
theorem chkL_of (h : xs.length ≤ cap) : chkL xs S = some (.ok xs, S) := if_pos h
@[simp] theorem chkT0 : chkT [] S = some (.ok (.tup []), S) := rfl
@[simp] theorem chkT1 {a : D} : chkT [a] S = some (.ok (.tup [a]), S) := chkT_of (by unfold cap; simp)
@[simp] theorem chkT2 {a b : D} : chkT [a, b] S = some (.ok (.tup [a, b]), S) := chkT_of (by unfold cap; simp)
@[simp] theorem chkT3 {a b c : D} : chkT [a, b, c] S = some (.ok (.tup [a, b, c]), S) := chkT_of (by unfold cap; simp)
@[simp] theorem chkT4 {a b c d : D} : chkT [a, b, c, d] S = some (.ok (.tup [a, b, c, d]), S) := chkT_of (by unfold cap; simp)
@[simp] theorem chkL0 : chkL [] S = some (.ok [], S) := rfl
@[simp] theorem chkL1 {a : D} : chkL [a] S = some (.ok [a], S) := chkL_of (by unfold cap; simp)
@[simp] theorem chkL2 {a b : D} : chkL [a, b] S = some (.ok [a, b], S) := chkL_of (by unfold cap; simp)
@[simp] theorem chkL3 {a b c : D} : chkL [a, b, c] S = some (.ok [a, b, c], S) := chkL_of (by unfold cap; simp)
@[simp] theorem chkL4 {a b c d : D} : chkL [a, b, c, d] S = some (.ok [a, b, c, d], S) := chkL_of (by unfold cap; simp)
@[simp] theorem chkL5 {a b c d e : D} : chkL [a, b, c, d, e] S = some (.ok [a, b, c, d, e], S) := chkL_of (by unfold cap; simp)
@[simp] theorem chkL6 {a b c d e f : D} : chkL [a, b, c, d, e, f] S = some (.ok [a, b, c, d, e, f], S) := chkL_of (by unfold cap; simp)
@[simp] theorem u_frz {r : EA} : xFrz r ρ S = bnd (r ρ S) fun xs S1 => some (.ok (.lst xs), S1) := rfl
@[simp] theorem u_cel {r : EA} : xCel r ρ S = bnd (r ρ S) fun xs S1 => some (.ok (.cell S1.length), S1 ++ [some (.lst xs)]) := rfl
@[simp] theorem u_expr {f : EX} : xExpr f ρ S = bndS (f ρ S) ρ fun _ S1 => some (.nx ρ S1) := rfl
@[simp] theorem u_ret {f : EX} : xRet f ρ S = bndS (f ρ S) ρ fun d S1 => some (.rt d S1) := rfl
@[simp] theorem u_ifS {t : ET} {g u : ES} : xIfS t g u ρ S = bndS (t ρ S) ρ fun b S1 => if b then g ρ S1 else u ρ S1 := rfl
@[simp] theorem u_set {f : EX} : xSet n f ρ S = bndS (f ρ S) ρ fun d S1 => some (.nx (ρ.set n (some d)) S1) := rfl
@[simp] theorem u_aug {g : D → D → Sto → Res D} {f : EX} : xAug n g f ρ S = match ρ[n]? with
  | some (some x) => bndS (bnd (f ρ S) fun y S1 => g x y S1) ρ fun d S1 => some (.nx (ρ.set n (some d)) S1)
  | _ => none := rfl
def asgS (gs : D → Frm → Sto → Option Frm) (d : D) (ρ : Frm) (S : Sto) : Option Out := match gs d ρ S with
  | some ρ1 => some (.nx ρ1 S)
  | none => none
@[simp] theorem u_asg {gs : D → Frm → Sto → Option Frm} {f : EX} : xAsg gs f ρ S = bndS (f ρ S) ρ fun d S1 => asgS gs d ρ S1 := rfl
def parS (i j : Nat) (ds : List D) (ρ : Frm) (S : Sto) : Option Out := match ds with
  | [a, b] => some (.nx ((ρ.set i (some a)).set j (some b)) S)
  | _ => none
@[simp] theorem u_par {fr : EA} : xPar n m fr ρ S = bndS (fr ρ S) ρ fun ds S1 => parS n m ds ρ S1 := rfl
@[simp] theorem u_parS : parS n m [x, y] ρ S = some (.nx ((ρ.set n (some x)).set m (some y)) S) := rfl
def putIx (o k v : D) (S3 : Sto) : Res D := match o, k with
    | .cell n, .int z => match S3[n]? with
      | some (some (.lst xs)) => match ixN xs.length z with
        | some m => some (.ok D.non, S3.set n (some (.lst (xs.set m v))))
        | none => none
      | _ => none
    | _, _ => none
@[simp] theorem u_setIx {fo fi fe : EX} : xSetIx fo fi fe ρ S = bndS (bnd (fe ρ S) fun v S1 => bnd (fo ρ S1) fun o S2 => bnd (fi ρ S2) fun k S3 => putIx o k v S3) ρ fun _ S4 => some (.nx ρ S4) := rfl
theorem putIx_of {v : D} (h : S[n]? = some (some (.lst xs))) (q : ixN xs.length i = some m) : putIx (.cell n) (.int i) v S = some (.ok D.non, S.set n (some (.lst (xs.set m v)))) := by
  unfold putIx
  dsimp only
  rw [h]
  dsimp only
  rw [q]
@[simp] theorem u_nx : xNx ρ S = some (.nx ρ S) := rfl
@[simp] theorem u_gName : gName n d ρ S = some (ρ.set n (some d)) := rfl
@[simp] theorem u_gNilT : gNilT [] ρ S = some ρ := rfl
@[simp] theorem u_gConsT {t : D → Frm → Sto → Option Frm} {u : List D → Frm → Sto → Option Frm} : gConsT t u (x :: xs) ρ S = match t x ρ S with | some ρ1 => u xs ρ1 S | none => none := rfl
@[simp] theorem u_gTupT {u : List D → Frm → Sto → Option Frm} : gTupT n u (.tup xs) ρ S = if xs.length = n then u xs ρ S else none := rfl
def seqI (d : D) (S : Sto) : Res Itm := match seqD S d with
  | some xs => some (.ok (xs, stays S d), S)
  | none => none
@[simp] theorem u_seqI {f : EX} : xSeqI f ρ S = bnd (f ρ S) seqI := rfl
@[simp] theorem seqI_lst : seqI (.lst xs) S = some (.ok (xs, fun _ => True), S) := rfl
@[simp] theorem seqI_tup : seqI (.tup xs) S = some (.ok (xs, fun _ => True), S) := rfl
theorem seqI_cell (h : S[n]? = some (some (.lst xs))) : seqI (.cell n) S = some (.ok (xs, fun S2 => S2[n]? = S[n]?), S) := by
  have e : seqD S (.cell n) = some xs := by
    dsimp only [seqD]
    rw [h]
  unfold seqI
  rw [e]
  rfl
def rng1 (ds : List D) (S : Sto) : Res Itm := match ds with
  | [.int j] => if rngOk 0 j then some (.ok (rangeD 0 j.toNat, fun _ => True), S) else none
  | _ => none
@[simp] theorem u_rng1 {fr : EA} : xRng1 fr ρ S = bnd (fr ρ S) rng1 := rfl
theorem rng1_of (h : -4611686018427387904 ≤ j) (h' : j < 4611686018427387904) : rng1 [.int j] S = some (.ok (rangeD 0 j.toNat, fun _ => True), S) := by
  unfold rng1
  dsimp only
  rw [if_pos]
  unfold rngOk
  simp [h, h']
def rng2 (ds : List D) (S : Sto) : Res Itm := match ds with
  | [.int i, .int j] => if rngOk i j then some (.ok (rangeD i (j - i).toNat, fun _ => True), S) else none
  | _ => none
@[simp] theorem u_rng2 {fr : EA} : xRng2 fr ρ S = bnd (fr ρ S) rng2 := rfl
theorem rng2_of (h1 : -4611686018427387904 ≤ i) (h2 : i < 4611686018427387904) (h : -4611686018427387904 ≤ j) (h' : j < 4611686018427387904) : rng2 [.int i, .int j] S = some (.ok (rangeD i (j - i).toNat, fun _ => True), S) := by
  unfold rng2
  dsimp only
  rw [if_pos]
  unfold rngOk
  simp [h1, h2, h, h']
@[simp] theorem u_for {it : EI} {gs : D → Frm → Sto → Option Frm} {bs : ES} : xFor it gs bs ρ S = bndS (it ρ S) ρ fun p S1 => forLoop p.2 gs bs p.1 ρ S1 := rfl
def enI (ds : List D) (S : Sto) : Res Itm := match ds with
  | [d] => match seqD S d with
    | some xs => some (.ok (enumD xs, stays S d), S)
    | none => none
  | _ => none
@[simp] theorem u_enum {fr : EA} : xEnum fr ρ S = bnd (fr ρ S) enI := rfl
@[simp] theorem enI_tup : enI [.tup xs] S = some (.ok (enumD xs, fun _ => True), S) := rfl
@[simp] theorem enI_lst : enI [.lst xs] S = some (.ok (enumD xs, fun _ => True), S) := rfl
def starE (d : D) (r : Sto → Res (List D)) (S : Sto) : Res (List D) := match seqD S d with
  | some xs => bnd (r S) fun ys S2 => some (.ok (xs ++ ys), S2)
  | none => none
@[simp] theorem u_star {f : EX} {r : EA} : xStar f r ρ S = bnd (f ρ S) fun d S1 => starE d (r ρ) S1 := rfl
@[simp] theorem starE_lst {r : Sto → Res (List D)} : starE (.lst xs) r S = bnd (r S) fun ys S2 => some (.ok (xs ++ ys), S2) := rfl
@[simp] theorem starE_tup {r : Sto → Res (List D)} : starE (.tup xs) r S = bnd (r S) fun ys S2 => some (.ok (xs ++ ys), S2) := rfl
@[simp] theorem u_noP : xNoP ρ S = some (.ok none, S) := rfl
def partI (d : D) (S : Sto) : Res (Option Int) := match d with
  | .int i => some (.ok (some i), S)
  | _ => none
@[simp] theorem u_part {f : EX} : xPart f ρ S = bnd (f ρ S) partI := rfl
@[simp] theorem partI_int : partI (.int i) S = some (.ok (some i), S) := rfl
def slL (d : D) (a b : Option Int) (S : Sto) : Res (List D) := match d with
  | .tup _ => none
  | d => match seqD S d with
    | some xs => some (.ok (cutL xs a b), S)
    | none => none
@[simp] theorem u_slL {f : EX} {fl fh : EO} : xSlL f fl fh ρ S = bnd (f ρ S) fun d S1 => bnd (fl ρ S1) fun a S2 => bnd (fh ρ S2) fun b S3 => slL d a b S3 := rfl
@[simp] theorem slL_lst {a b : Option Int} : slL (.lst xs) a b S = some (.ok (cutL xs a b), S) := rfl
def slT (d : D) (a b : Option Int) (S : Sto) : Res D := match d with
  | .tup xs => if HT.sIx xs.length 0 a = 0 ∧ HT.sIx xs.length xs.length b = xs.length then none else some (.ok (.tup (cutL xs a b)), S)
  | _ => none
@[simp] theorem u_slT {f : EX} {fl fh : EO} : xSlT f fl fh ρ S = bnd (f ρ S) fun d S1 => bnd (fl ρ S1) fun a S2 => bnd (fh ρ S2) fun b S3 => slT d a b S3 := rfl
def appS (d : D) (r : Sto → Res D) (S1 : Sto) : Res D := match d with
  | .cell n => match S1[n]? with
    | some (some (.lst _)) => bnd (r S1) fun y S2 => match S2[n]? with
      | some (some (.lst xs)) => if xs.length < cap then some (.ok .non, S2.set n (some (.lst (xs ++ [y])))) else none
      | _ => none
    | _ => none
  | _ => none
@[simp] theorem u_app {fo fe : EX} : xApp fo fe ρ S = bnd (fo ρ S) fun d S1 => appS d (fe ρ) S1 := rfl
theorem okE_app {r : Sto → Res D} {Q : D → Sto → Prop} {X : Er → Sto → Prop} (h : S[n]? = some (some (.lst xs))) (q : OkE (r S) (fun y S2 => ∃ zs, S2[n]? = some (some (.lst zs)) ∧ zs.length < cap ∧ Q .non (S2.set n (some (.lst (zs ++ [y]))))) X) : OkE (appS (.cell n) r S) Q X := by
  unfold appS
  dsimp only
  rw [h]
  dsimp only
  rw [okE_bnd]
  refine q.imp (fun y S2 z => ?_) fun _ _ z => z
  obtain ⟨zs, z1, z2, z3⟩ := z
  rw [z1]
  dsimp only
  rw [if_pos z2]
  exact z3
@[simp] theorem u_callB {g : List D → Sto → Res D} {fr : EA} : xCallB g fr ρ S = bnd (fr ρ S) fun ds S1 => g ds S1 := rfl
@[simp] theorem u_callF {g : List D → Sto → Res (List D)} {fr : EA} : xCallF g fr ρ S = bnd (fr ρ S) fun ds S1 => g ds S1 := rfl
@[simp] theorem u_call {fn : Fn} {fr : EA} : xCall n fn fr ρ S = bnd (fr ρ S) fun ds S1 => if ds.length = n then fn ds S1 else none := rfl
@[simp] theorem u_callK {fn : Fn} {fr : EA} {pm : List Nat} : xCallK n m pm fn fr ρ S = bnd (fr ρ S) fun ds S1 => if ds.length = m ∧ (gxs pm ds).length = n then fn (gxs pm ds) S1 else none := rfl
@[simp] theorem u_meth {tc : Nat → Option Nat} {c : Nat} {fn : Fn} {fo : EX} {fr : EA} : xMeth tc c n fn fo fr ρ S = bnd (fo ρ S) fun d S1 => if clsD tc S1 d = some c then bnd (fr ρ S1) fun ds S2 => if ds.length + 1 = n then fn (d :: ds) S2 else none else none := rfl
@[simp] theorem u_prop {tc : Nat → Option Nat} {c : Nat} {fn : Fn} {fo : EX} : xProp tc c fn fo ρ S = bnd (fo ρ S) fun d S1 => if clsD tc S1 d = some c then noEr (fn [d] S1) else none := rfl
@[simp] theorem u_isi {tc : Nat → Option Nat} {c : Nat} {fo : EX} : xIsi tc c fo ρ S = bnd (fo ρ S) fun d S1 => if clsD tc S1 d = some c then some (.ok (.bl true), S1) else none := rfl
@[simp] theorem u_clsO {tc : Nat → Option Nat} : clsD tc S (.obj n d) = tc n := rfl
@[simp] theorem u_chain {g g' : D → D → Sto → Res Bool} {a b c : EX} : xChain g g' a b c ρ S = bnd (a ρ S) fun x S1 => bnd (b ρ S1) fun y S2 => bnd (g x y S2) fun k S3 => if k then bnd (c ρ S3) fun z S4 => g' y z S4 else some (.ok false, S3) := rfl
def asg2S (g1 g2 : D → Frm → Sto → Option Frm) (d : D) (ρ : Frm) (S : Sto) : Option Out := match g1 d ρ S with
  | some ρ1 => match g2 d ρ1 S with
    | some ρ2 => some (.nx ρ2 S)
    | none => none
  | none => none
@[simp] theorem u_asg2 {g1 g2 : D → Frm → Sto → Option Frm} {f : EX} : xAsg2 g1 g2 f ρ S = bndS (f ρ S) ρ fun d S1 => asg2S g1 g2 d ρ S1 := rfl
@[simp] theorem u_asg2S {i j : Nat} : asg2S (gName i) (gName j) d ρ S = some (.nx ((ρ.set i (some d)).set j (some d)) S) := rfl
@[simp] theorem u_asgN : asgS (gName n) d ρ S = some (.nx (ρ.set n (some d)) S) := rfl
@[simp] theorem u_asgT {u : List D → Frm → Sto → Option Frm} : asgS (gTupT n u) (.tup xs) ρ S = match (if xs.length = n then u xs ρ S else none) with | some ρ1 => some (.nx ρ1 S) | none => none := rfl
def fldS (c i : Nat) (v o : D) (ρ : Frm) (S2 : Sto) : Option Out := match o with
  | .cell n => match S2[n]? with
    | some (some (.ins c' fs)) => if c' = c ∧ fs.length < 900 then some (.nx ρ (S2.set n (some (.ins c (putN i v fs))))) else none
    | _ => none
  | _ => none
@[simp] theorem u_setF {c i : Nat} {fo fe : EX} : xSetF c i fo fe ρ S = bndS (fe ρ S) ρ fun v S1 => bndS (fo ρ S1) ρ fun o S2 => fldS c i v o ρ S2 := rfl
theorem fldS_of {c i : Nat} {v : D} {fs : List (Nat × D)} (h : S[n]? = some (some (.ins c fs))) (h2 : fs.length < 900) : fldS c i v (.cell n) ρ S = some (.nx ρ (S.set n (some (.ins c (putN i v fs))))) := by
  unfold fldS
  dsimp only
  rw [h]
  dsimp only
  rw [if_pos ⟨rfl, h2⟩]
@[simp] theorem fldS_last {c i : Nat} {v : D} {fs : List (Nat × D)} : fldS c i v (.cell S.length) ρ (S ++ [some (.ins c fs)]) = if fs.length < 900 then some (.nx ρ (S ++ [some (.ins c (putN i v fs))])) else none := by
  by_cases h : fs.length < 900
  · rw [fldS_of (fs := fs) (by rw [List.getElem?_append_right (Nat.le_refl _), Nat.sub_self]; rfl) h, if_pos h, List.set_append_right _ _ (Nat.le_refl _), Nat.sub_self]
    rfl
  · rw [if_neg h]
    unfold fldS
    dsimp only
    rw [List.getElem?_append_right (Nat.le_refl _), Nat.sub_self]
    dsimp only [List.getElem?_cons_zero]
    rw [if_neg fun z => h z.2]
@[simp] theorem u_yes : xYes ρ S = some (.ok true, S) := rfl
@[simp] theorem u_gAdd : gAdd (.int i) (.int j) S = some (.ok (.int (i + j)), S) := rfl
@[simp] theorem u_gSub : gSub (.int i) (.int j) S = some (.ok (.int (i - j)), S) := rfl
@[simp] theorem u_gNeg : gNeg (.int i) S = some (.ok (.int (-i)), S) := rfl
@[simp] theorem u_gCmp {p : Int → Int → Bool} : gCmp p (.int i) (.int j) S = some (.ok (p i j), S) := rfl
@[simp] theorem u_gAbs : gAbs [.int i] S = some (.ok (.int (if i < 0 then -i else i)), S) := rfl
@[simp] theorem u_gMax2 : gMax2 [.int i, .int j] S = some (.ok (.int (if j > i then j else i)), S) := rfl
@[simp] theorem u_gMin2 : gMin2 [.int i, .int j] S = some (.ok (.int (if j < i then j else i)), S) := rfl
@[simp] theorem u_gInt : gInt [.int i] S = some (.ok (.int i), S) := rfl
@[simp] theorem u_gIntB : gInt [.bl k] S = some (.ok (.int (if k then 1 else 0)), S) := rfl
@[simp] theorem u_gLenT : gLen [.tup xs] S = some (.ok (.int xs.length), S) := rfl
@[simp] theorem u_gLenL : gLen [.lst xs] S = some (.ok (.int xs.length), S) := rfl
@[simp] theorem u_gLenS {ns : List Int} : gLen [.scr ns] S = some (.ok (.int ns.length), S) := by
  show some (Except.ok (D.int ((ns.map D.int).length : Nat)), S) = _
  rw [List.length_map]
@[simp] theorem u_gListL : gList [.lst xs] S = some (.ok xs, S) := rfl
@[simp] theorem u_gListT : gList [.tup xs] S = some (.ok xs, S) := rfl
@[simp] theorem u_gIsN {neg : Bool} : gIsN neg x .non S = some (.ok (xor neg (isN x)), S) := by
  cases x <;> rfl
@[simp] theorem u_isN1 : isN .non = true := rfl
@[simp] theorem u_isN2 : isN (.tup xs) = false := rfl
@[simp] theorem u_isN3 : isN (.int i) = false := rfl
@[simp] theorem u_isN4 : isN (.obj n d) = false := rfl
theorem ix_lt {a : D} {l : List D} {k : Nat} (h : k < l.length) (e : l[k]? = some a) : atI l (k : Int) = some a := by
  unfold atI ixN
  simp [h, (List.getElem?_eq_some_iff.mp e).2]
@[simp] theorem ix0L {a : D} : gIdx (.lst (a :: xs)) (.int 0) S = some (.ok a, S) := by
  unfold gIdx seqD
  dsimp only
  rw [show (0 : Int) = ((0 : Nat) : Int) from rfl, ix_lt (a := a) (by simp) rfl]
@[simp] theorem ix1L {a b : D} : gIdx (.lst (a :: b :: xs)) (.int 1) S = some (.ok b, S) := by
  unfold gIdx seqD
  dsimp only
  rw [show (1 : Int) = ((1 : Nat) : Int) from rfl, ix_lt (a := b) (by simp) rfl]
@[simp] theorem ix2L {a b c : D} : gIdx (.lst (a :: b :: c :: xs)) (.int 2) S = some (.ok c, S) := by
  unfold gIdx seqD
  dsimp only
  rw [show (2 : Int) = ((2 : Nat) : Int) from rfl, ix_lt (a := c) (by simp) rfl]
@[simp] theorem ix3L {a b c d : D} : gIdx (.lst (a :: b :: c :: d :: xs)) (.int 3) S = some (.ok d, S) := by
  unfold gIdx seqD
  dsimp only
  rw [show (3 : Int) = ((3 : Nat) : Int) from rfl, ix_lt (a := d) (by simp) rfl]
@[simp] theorem ix0T {a : D} : gIdx (.tup (a :: xs)) (.int 0) S = some (.ok a, S) := ix0L
@[simp] theorem ix1T {a b : D} : gIdx (.tup (a :: b :: xs)) (.int 1) S = some (.ok b, S) := ix1L
@[simp] theorem ix2T {a b c : D} : gIdx (.tup (a :: b :: c :: xs)) (.int 2) S = some (.ok c, S) := ix2L
@[simp] theorem ix3T {a b c d : D} : gIdx (.tup (a :: b :: c :: d :: xs)) (.int 3) S = some (.ok d, S) := ix3L
theorem ix_nat {k : Nat} {a : D} (e : xs[k]? = some a) : gIdx (.lst xs) (.int (k : Int)) S = some (.ok a, S) := by
  unfold gIdx seqD
  dsimp only
  rw [ix_lt (List.getElem?_eq_some_iff.mp e).1 e]
theorem ixT_nat {k : Nat} {a : D} (e : xs[k]? = some a) : gIdx (.tup xs) (.int (k : Int)) S = some (.ok a, S) := ix_nat e
theorem pick {Q : D → Sto → Prop} {X : Er → Sto → Prop} (h : 0 ≤ i) (h' : i < xs.length) (q : ∀ d, d ∈ xs → Q d S) : OkE (gIdx (.lst xs) (.int i) S) Q X := by
  obtain ⟨k, rfl⟩ := Int.eq_ofNat_of_zero_le h
  have hk : k < xs.length := by omega
  rw [ix_nat (List.getElem?_eq_getElem hk)]
  exact q _ (List.getElem_mem hk)
theorem pick4 {a b c d : Int} {Q : D → Sto → Prop} {X : Er → Sto → Prop} (h : 0 ≤ i) (h' : i < 4) (q : ∀ v, v = a ∨ v = b ∨ v = c ∨ v = d → Q (.int v) S) : OkE (gIdx (.lst [.int a, .int b, .int c, .int d]) (.int i) S) Q X := by
  refine pick h (by simpa using h') fun x hx => ?_
  simp at hx
  rcases hx with rfl | rfl | rfl | rfl <;> exact q _ (by simp)
theorem pick3 {a b c : Int} {Q : D → Sto → Prop} {X : Er → Sto → Prop} (h : 0 ≤ i) (h' : i < 3) (q : ∀ v, v = a ∨ v = b ∨ v = c → Q (.int v) S) : OkE (gIdx (.lst [.int a, .int b, .int c]) (.int i) S) Q X := by
  refine pick h (by simpa using h') fun x hx => ?_
  simp at hx
  rcases hx with rfl | rfl | rfl <;> exact q _ (by simp)
theorem pick2 {a b : Int} {Q : D → Sto → Prop} {X : Er → Sto → Prop} (h : 0 ≤ i) (h' : i < 2) (q : ∀ v, v = a ∨ v = b → Q (.int v) S) : OkE (gIdx (.lst [.int a, .int b]) (.int i) S) Q X := by
  refine pick h (by simpa using h') fun x hx => ?_
  simp at hx
  rcases hx with rfl | rfl <;> exact q _ (by simp)
@[simp] theorem u_catL : gCat (.lst xs) (.lst ys) S = if xs.length + ys.length ≤ 16000000 then some (.ok (xs ++ ys), S) else none := rfl
theorem gMul_of (h : mulOk i j = true) : gMul (.int i) (.int j) S = some (.ok (.int (i * j)), S) := if_pos h
theorem gDiv_of (h : divOk j = true) : gDiv (.int i) (.int j) S = some (.ok (.int (i / j)), S) := if_pos h
theorem gMod_of (h : 0 < j) : gMod (.int i) (.int j) S = some (.ok (.int (i % j)), S) := if_pos h
theorem gPow_of (h : powOk i j = true) : gPow (.int i) (.int j) S = some (.ok (.int (i ^ j.toNat)), S) := if_pos h
theorem log2_lt {k n : Nat} (h : k < 2 ^ n) (hn : 0 < n) : k.log2 < n := by
  by_cases z : k = 0
  · subst z; simpa using hn
  · exact (Nat.log2_lt z).mpr h
/-- what is less than so much may be multiplied -/
theorem mulOk_of (h1 : i.natAbs < 2 ^ 400000) (h2 : j.natAbs < 2 ^ 400000) : mulOk i j = true := by
  have e1 := log2_lt h1 (by decide)
  have e2 := log2_lt h2 (by decide)
  unfold mulOk
  simp only [decide_eq_true_eq]
  omega
@[simp] theorem u_newD : xNewD ρ S = some (.ok (.cell S.length), S ++ [some (.dK [])]) := rfl
@[simp] theorem u_dic1 {fk fv : EX} : xDic1 fk fv ρ S = bnd (fk ρ S) fun x S1 => bnd (fv ρ S1) fun y S2 => match x with
  | .int i => some (.ok (.cell S2.length), S2 ++ [some (.dK [(.inl i, y)])])
  | _ => none := rfl
def popE (d : D) (r : Sto → Res D) (S1 : Sto) : Res D := match dicD S1 d with
  | some _ => bnd (r S1) fun k S2 => popK d k S2
  | none => none
@[simp] theorem u_pop1 {fo fk : EX} : xPop1 fo fk ρ S = bnd (fo ρ S) fun d S1 => popE d (fk ρ) S1 := rfl
theorem popE_of {ks : List (Key × D)} {r : Sto → Res D} (h : dicD S d = some ks) : popE d r S = bnd (r S) fun k S2 => popK d k S2 := by
  unfold popE
  rw [h]
def setdE (d : D) (r t : Sto → Res D) (S1 : Sto) : Res D := match dicD S1 d with
  | some _ => bnd (r S1) fun k S2 => bnd (t S2) fun y S3 => setdK d k y S3
  | none => none
@[simp] theorem u_setd {fo fk fv : EX} : xSetd fo fk fv ρ S = bnd (fo ρ S) fun d S1 => setdE d (fk ρ) (fv ρ) S1 := rfl
theorem setdE_of {ks : List (Key × D)} {r t : Sto → Res D} (h : dicD S d = some ks) : setdE d r t S = bnd (r S) fun k S2 => bnd (t S2) fun y S3 => setdK d k y S3 := by
  unfold setdE
  rw [h]
@[simp] theorem u_dput {fo fi fe : EX} : xDPut fo fi fe ρ S = bndS (bnd (fe ρ S) fun v S1 => bnd (fo ρ S1) fun o S2 => bnd (fi ρ S2) fun k S3 => putKD o k v S3) ρ fun _ S4 => some (.nx ρ S4) := rfl
/-- cells of data without cells -/
def Flat (S : Sto) : Prop := S.all (lowS 0) = true
mutual
theorem low_mono {k : Nat} : ∀ {d : D}, D.low 0 d = true → D.low k d = true
  | .tup xs, h => lows_mono h
  | .lst xs, h => lows_mono h
  | .cell _, h => by simp [D.low] at h
  | .non, _ => rfl
  | .bl _, _ => rfl
  | .int _, _ => rfl
  | .str _, _ => rfl
  | .scr _, _ => rfl
  | .obj _ _, _ => rfl
theorem lows_mono {k : Nat} : ∀ {ds : List D}, D.lowAll 0 ds = true → D.lowAll k ds = true
  | [], _ => rfl
  | d :: ds, h => by
    rw [D.lowAll, Bool.and_eq_true] at h ⊢
    exact ⟨low_mono h.1, lows_mono h.2⟩
end
theorem lowS_mono {k : Nat} {x : Option Cell} (h : lowS 0 x = true) : lowS k x = true := by
  match x, h with
  | none, _ => rfl
  | some (.lst xs), h => exact lows_mono h
  | some (.dK kvs), h => exact List.all_eq_true.mpr fun p hp => low_mono (List.all_eq_true.mp h p hp)
  | some (.dT kvs), h => exact List.all_eq_true.mpr fun p hp => low_mono (List.all_eq_true.mp h p hp)
  | some (.ins _ fs), h => exact List.all_eq_true.mpr fun p hp => low_mono (List.all_eq_true.mp h p hp)
theorem Flat.low {S : Sto} (h : Flat S) (k : Nat) : S.all (lowS k) = true := List.all_eq_true.mpr fun x hx => lowS_mono (List.all_eq_true.mp h x hx)
theorem okE_cut {fn : Fn} {ds : List D} {S : Sto} {Q : D → Sto → Prop} (h : OkE (fn ds S) fun d S' => S.length ≤ S'.length ∧ (S'.take S.length).all (lowS S.length) = true ∧ D.low S.length d = true ∧ Q d (S'.take S.length)) {X : Er → Sto → Prop} : OkE (cutF fn ds S) Q X := by
  obtain ⟨d, S', e, h1, h2, h3, h4⟩ := h.eq
  unfold cutF
  rw [e]
  dsimp only
  rw [if_pos ⟨h1, h2, h3⟩]
  exact h4
theorem mkO_of {c t : Nat} {init : Fn} {conv : List (Nat × D) → Option D} {ds : List D} {S : Sto} {fs : List (Nat × D)} {d : D} (h : init (.cell S.length :: ds) (S ++ [some (.ins c [])]) = some (.ok .non, S ++ [some (.ins c fs)]))
    (hS : S.all (lowS S.length) = true) (hf : (fs.all fun p => D.low S.length p.2) = true) (hc : conv fs = some d) : mkO c t init conv ds S = some (.ok (.obj t d), S) := by
  unfold mkO
  rw [h]
  dsimp only
  rw [List.getElem?_append_right (Nat.le_refl _), Nat.sub_self]
  dsimp only [List.getElem?_cons_zero]
  have e : (S ++ [some (Cell.ins c fs)]).take S.length = S := List.take_left' rfl
  rw [e, if_pos ⟨rfl, hS, hf⟩, hc]
end
/-- a search through a loop -/
theorem okS_find {α : Type} {g : Sto → Prop} {gs : D → Frm → Sto → Option Frm} {bs : ES} (emb : α → D) (f : α → Option D) (Pr : α → Prop) (I : Frm → Sto → Prop) {R : Sto → Prop}
    (s : ∀ a ρ S, Pr a → I ρ S → g S ∧ ∃ ρ1, gs (emb a) ρ S = some ρ1 ∧ OkS (bs ρ1 S) { nx := fun ρ2 S2 => f a = none ∧ I ρ2 S2, rt := fun d S2 => f a = some d ∧ R S2 }) (e : ∀ ρ S, I ρ S → g S) :
    ∀ (xs : List α) (ρ : Frm) (S : Sto), (∀ a, a ∈ xs → Pr a) → I ρ S → OkS (forLoop g gs bs (xs.map emb) ρ S) { nx := fun ρ S => xs.findSome? f = none ∧ I ρ S, rt := fun d S => xs.findSome? f = some d ∧ R S }
  | [], ρ, S, _, h => by
    rw [List.map_nil]
    unfold forLoop
    rw [if_pos (e ρ S h)]
    exact ⟨rfl, h⟩
  | a :: xs, ρ, S, hp, h => by
    obtain ⟨h1, ρ1, h2, h3⟩ := s a ρ S (hp a (List.mem_cons_self ..)) h
    rw [List.map_cons]
    unfold forLoop
    rw [if_pos h1, h2]
    dsimp only
    match bs ρ1 S, h3 with
    | some (.nx ρ2 S2), h3 =>
      have q := okS_find emb f Pr I s e xs ρ2 S2 (fun a ha => hp a (List.mem_cons_of_mem _ ha)) h3.2
      rw [List.findSome?_cons, h3.1]
      exact q
    | some (.rt d S2), h3 =>
      rw [List.findSome?_cons, h3.1]
      exact ⟨rfl, h3.2⟩
noncomputable section
def lcE (gs : D → Frm → Sto → Option Frm) (ts : ET) (es : EX) (ρ : Frm) (p : Itm) (S : Sto) : Res (List D) := if p.1.length ≤ cap then match lcLoop p.2 gs ts es p.1 ρ S with
    | some (ys, S2) => some (.ok ys, S2)
    | none => none
  else none
end
@[simp] theorem u_lc {it : EI} {gs : D → Frm → Sto → Option Frm} {ts : ET} {es : EX} {own : List Nat} {ρ : Frm} {S : Sto} : xLc it gs ts es own ρ S = bnd (it ρ S) fun p S1 => lcE gs ts es (wipeF ρ own) p S1 := rfl
@[simp] theorem wipe_nil {ρ : Frm} : wipeF ρ [] = ρ := rfl
@[simp] theorem wipe_cons {ρ : Frm} {i : Nat} {is : List Nat} : wipeF ρ (i :: is) = (wipeF ρ is).set i none := rfl
theorem lcE_map {α : Type} {gs : D → Frm → Sto → Option Frm} {ts : ET} {es : EX} {ρ : Frm} {S : Sto} {g : Sto → Prop} (emb : α → D) (f : α → D) (os : List α) (h : os.length ≤ 16000000) (hg : g S)
    (hs : ∀ d, d ∈ os → ∃ ρ1, gs (emb d) ρ S = some ρ1 ∧ ts ρ1 S = some (.ok true, S) ∧ es ρ1 S = some (.ok (f d), S)) : lcE gs ts es ρ (os.map emb, g) S = some (.ok (os.map f), S) := by
  have key : ∀ os : List α, (∀ d, d ∈ os → ∃ ρ1, gs (emb d) ρ S = some ρ1 ∧ ts ρ1 S = some (.ok true, S) ∧ es ρ1 S = some (.ok (f d), S)) → lcLoop g gs ts es (os.map emb) ρ S = some (os.map f, S) := by
    intro os
    induction os with
    | nil => intro _; rw [List.map_nil]; unfold lcLoop; rw [if_pos hg]; rfl
    | cons d os ih =>
      intro hs
      obtain ⟨ρ1, e1, e2, e3⟩ := hs d (List.mem_cons_self ..)
      rw [List.map_cons]
      unfold lcLoop
      rw [if_pos hg, e1]
      dsimp only
      rw [e2]
      dsimp only
      rw [e3]
      dsimp only
      rw [ih fun d hd => hs d (List.mem_cons_of_mem _ hd)]
      rfl
  unfold lcE
  rw [if_pos (show (os.map emb).length ≤ cap by rw [List.length_map]; exact h), key os hs]
theorem lcE_filter {α : Type} {gs : D → Frm → Sto → Option Frm} {ts : ET} {es : EX} {ρ : Frm} {S : Sto} {g : Sto → Prop} (emb : α → D) (f : α → D) (p : α → Bool) (os : List α) (h : os.length ≤ 16000000) (hg : g S)
    (hs : ∀ d, d ∈ os → ∃ ρ1, gs (emb d) ρ S = some ρ1 ∧ ts ρ1 S = some (.ok (p d), S) ∧ (p d = true → es ρ1 S = some (.ok (f d), S))) : lcE gs ts es ρ (os.map emb, g) S = some (.ok ((os.filter p).map f), S) := by
  have key : ∀ os : List α, (∀ d, d ∈ os → ∃ ρ1, gs (emb d) ρ S = some ρ1 ∧ ts ρ1 S = some (.ok (p d), S) ∧ (p d = true → es ρ1 S = some (.ok (f d), S))) → lcLoop g gs ts es (os.map emb) ρ S = some ((os.filter p).map f, S) := by
    intro os
    induction os with
    | nil => intro _; rw [List.map_nil]; unfold lcLoop; rw [if_pos hg]; rfl
    | cons d os ih =>
      intro hs
      obtain ⟨ρ1, e1, e2, e3⟩ := hs d (List.mem_cons_self ..)
      have ih' := ih fun d hd => hs d (List.mem_cons_of_mem _ hd)
      rw [List.map_cons]
      unfold lcLoop
      rw [if_pos hg, e1]
      dsimp only
      rw [e2]
      cases z : p d with
      | true =>
        dsimp only
        rw [e3 z]
        dsimp only
        rw [ih', List.filter_cons, z]
        rfl
      | false =>
        dsimp only
        rw [ih', List.filter_cons, z]
        rfl
  unfold lcE
  rw [if_pos (show (os.map emb).length ≤ cap by rw [List.length_map]; exact h), key os hs]
@[simp] theorem gxs10 {α : Type} {a b : α} : gxs [1, 0] [a, b] = [b, a] := rfl
@[simp] theorem gxs01 {α : Type} {a b : α} : gxs [0, 1] [a, b] = [a, b] := rfl
@[simp] theorem gxs0 {α : Type} {a : α} : gxs [0] [a] = [a] := rfl
/-! ### data of numbers: equal, told -/
mutual
/-- numbers, truth values, None, tuples and lists of them, k deep -/
def num (k : Nat) : D → Prop
  | .str x => (PyData.str x).canLay0 = true ∧ PyData.eqv (.str x) (.str x) = true ∧ (PyData.str x).showable = true ∧ (PyData.str x).hasDict = false ∧ (PyData.str x).depth = 0 ∧ (PyData.str x).shown.length ≤ 5
  | .non => True
  | .bl _ => True
  | .int i => i.natAbs < 2 ^ 1000
  | .tup xs => 0 < k ∧ nums (k - 1) xs
  | .lst xs => 0 < k ∧ nums (k - 1) xs
  | _ => False
def nums (k : Nat) : List D → Prop
  | [] => True
  | x :: xs => num k x ∧ nums k xs
/-- how long its text can be -/
def rsz : D → Nat
  | .int _ => 320
  | .tup xs => rszs xs + 3
  | .lst xs => rszs xs + 3
  | _ => 5
def rszs : List D → Nat
  | [] => 0
  | x :: xs => rsz x + 2 + rszs xs
end
theorem nums_iff {k : Nat} : ∀ {xs : List D}, nums k xs ↔ ∀ x, x ∈ xs → num k x
  | [] => by simp [nums]
  | x :: xs => by rw [nums, nums_iff (xs := xs)]; simp
structure NumP (k : Nat) (d : D) (p : PyData) : Prop where
  to : toP d = some p
  lay : p.canLay0 = true
  dep : p.depth ≤ k
  eq : PyData.eqv p p = true
  sh : p.showable = true
  nd : p.hasDict = false
  ln : p.shown.length ≤ rsz d
structure NumPs (k : Nat) (ds : List D) (ps : List PyData) : Prop where
  to : toPs ds = some ps
  lay : PyData.canLayAll0 ps = true
  dep : PyData.depthAll ps ≤ k
  eq : PyData.eqvAll ps ps = true
  sh : PyData.showableAll ps = true
  nd : PyData.hasDictAll ps = false
  ln : ((PyData.shownAll ps).map (·.length)).sum + 2 * (PyData.shownAll ps).length ≤ rszs ds
theorem shown_int_le' {i : Int} (h : i.natAbs < 2 ^ 1000) : (PyData.int i).shown.length ≤ 320 := by
  have e := int_text_length_le10 (k := 310) (a := i) (by decide) (Nat.lt_of_lt_of_le h (by decide +kernel))
  show (Str.ofString (toString i)).length ≤ 320
  rw [PySem.ofString_length]
  omega
mutual
theorem num_p : ∀ (d : D) (k : Nat), num k d → ∃ p, NumP k d p
  | .non, k, _ => ⟨.none, rfl, rfl, Nat.zero_le _, rfl, rfl, rfl, by show Str.length ("None" : Str) ≤ 5; decide +kernel⟩
  | .bl b, k, _ => ⟨.bool b, rfl, rfl, Nat.zero_le _, by cases b <;> rfl, rfl, rfl, by cases b <;> (show Str.length _ ≤ 5; decide +kernel)⟩
  | .int i, k, h => ⟨.int i, rfl, rfl, Nat.zero_le _, by simp [PyData.eqv], by
      have h' : i.natAbs < 2 ^ 1000 := h
      have := log2_lt h' (by decide)
      simp only [PyData.showable, decide_eq_true_eq]
      omega, rfl, shown_int_le' h⟩
  | .str x, k, h => by
    rw [num] at h
    exact ⟨.str x, rfl, h.1, by rw [h.2.2.2.2.1]; exact Nat.zero_le _, h.2.1, h.2.2.1, h.2.2.2.1, h.2.2.2.2.2⟩
  | .tup xs, k, h => by
    rw [num] at h
    obtain ⟨ps, q⟩ := nums_p xs (k - 1) h.2
    refine ⟨.tuple ps, by rw [toP, q.to]; rfl, by rw [PyData.canLay0]; exact q.lay, by rw [PyData.depth]; have := q.dep; omega, by rw [PyData.eqv]; exact q.eq, by rw [PyData.showable]; exact q.sh, by rw [PyData.hasDict]; exact q.nd, ?_⟩
    rw [PyData.shown, rsz]
    exact Nat.le_trans (tupleText_len_le _) (by have := q.ln; omega)
  | .lst xs, k, h => by
    rw [num] at h
    obtain ⟨ps, q⟩ := nums_p xs (k - 1) h.2
    refine ⟨.list ps, by rw [toP, q.to]; rfl, by rw [PyData.canLay0]; exact q.lay, by rw [PyData.depth]; have := q.dep; omega, by rw [PyData.eqv]; exact q.eq, by rw [PyData.showable]; exact q.sh, by rw [PyData.hasDict]; exact q.nd, ?_⟩
    rw [PyData.shown, rsz]
    exact Nat.le_trans (listText_len_le _) (by have := q.ln; omega)
theorem nums_p : ∀ (ds : List D) (k : Nat), nums k ds → ∃ ps, NumPs k ds ps
  | [], k, _ => ⟨[], rfl, rfl, Nat.zero_le _, rfl, rfl, rfl, Nat.zero_le _⟩
  | d :: ds, k, h => by
    rw [nums] at h
    obtain ⟨p, a⟩ := num_p d k h.1
    obtain ⟨ps, b⟩ := nums_p ds k h.2
    refine ⟨p :: ps, by rw [toPs, a.to, b.to], by rw [PyData.canLayAll0, a.lay, b.lay]; rfl, by rw [PyData.depthAll]; exact Nat.max_le.mpr ⟨a.dep, b.dep⟩, by rw [PyData.eqvAll, a.eq, b.eq]; rfl, by rw [PyData.showableAll, a.sh, b.sh]; rfl, by rw [PyData.hasDictAll, a.nd, b.nd]; rfl, ?_⟩
    rw [PyData.shownAll, rszs, List.map_cons, List.sum_cons, List.length_cons]
    have := a.ln
    have := b.ln
    omega
end
theorem gEq_p {neg : Bool} {x y : D} {S : Sto} {p q : PyData} {k : Nat} (hx : NumP k x p) (hy : NumP k y q) (hk : k ≤ 64) : gEq neg x y S = some (.ok (xor neg (PyData.eqv p q)), S) := by
  have ex : toPc S x = some p := by
    have := hx.to
    cases x <;> first | exact this | (simp [toP] at this)
  have ey : toPc S y = some q := by
    have := hy.to
    cases y <;> first | exact this | (simp [toP] at this)
  have e : gEqD neg x y S = some (.ok (xor neg (PyData.eqv p q)), S) := by
    unfold gEqD
    rw [ex, ey]
    dsimp only
    rw [if_pos]
    unfold SeqAt.shaped
    have := hx.dep
    have := hy.dep
    simp [hx.lay, hy.lay]
    omega
  rcases gEq_split neg x y S with ⟨a, b, rfl, rfl, z⟩ | z
  · have h1 := hx.to
    have h2 := hy.to
    rw [toP] at h1 h2
    cases h1
    cases h2
    rw [z, PyData.eqv]
    rfl
  · rw [z, e]
theorem gEq_refl {neg : Bool} {x : D} {S : Sto} {k : Nat} (h : num k x) (hk : k ≤ 64) : gEq neg x x S = some (.ok (!neg), S) := by
  obtain ⟨p, q⟩ := num_p x k h
  rw [gEq_p q q hk, q.eq, Bool.xor_true]
@[simp] theorem gEq_int {neg : Bool} {i j : Int} {S : Sto} : gEq neg (.int i) (.int j) S = some (.ok (xor neg (decide (i = j))), S) := by
  unfold gEq gEqD toPc toP
  simp [SeqAt.shaped, PyData.eqv, PyData.canLay0, PyData.depth]
  rfl
@[simp] theorem gEq_str {neg : Bool} {i j : Str} {S : Sto} : gEq neg (.str i) (.str j) S = some (.ok (xor neg (decide (i = j))), S) := rfl
/-- the text of numbers -/
def rtx (d : D) : Str := match toP d with
  | some p => p.shown
  | none => Str.empty
theorem repr_n {d : D} {S : Sto} {k : Nat} (h : num k d) (hk : k ≤ 64) (hz : rsz d ≤ 16000000) (hd : (∃ xs, d = .tup xs) ∨ ∃ xs, d = .lst xs) : gReprR [d] S = some (.ok (.str (rtx d)), S) := by
  obtain ⟨p, q⟩ := num_p d k h
  have e : gRepr [d] S = some (.ok (.str (rtx d)), S) := by
    have ex : toPc S d = some p := by
      have := q.to
      cases d <;> first | exact this | (simp [toP] at this)
    unfold gRepr rtx
    dsimp only
    rw [ex, q.to]
    dsimp only
    rw [if_pos]
    have := q.dep
    have := q.ln
    simp only [q.sh, q.nd, Bool.and_eq_true, decide_eq_true_eq, Bool.not_false, and_true, true_and, cap]
    exact ⟨by omega, decide_eq_true (Nat.le_trans q.ln hz)⟩
  rcases hd with ⟨xs, rfl⟩ | ⟨xs, rfl⟩ <;> exact e
/-! ### the forms of E13 -/
section
variable {i j : Int} {n m : Nat} {x y d : D} {xs ys : List D} {S : Sto} {ρ : Frm} {k l : Bool}
def rng3 (ds : List D) (S : Sto) : Res Itm := match ds with
  | [.int i, .int j, .int (-1)] => if rngOk i j then some (.ok (rangeDn i (i - j).toNat, fun _ => True), S) else none
  | _ => none
@[simp] theorem u_rng3 {fr : EA} : xRng3 fr ρ S = bnd (fr ρ S) rng3 := rfl
theorem rng3_of (h1 : -4611686018427387904 ≤ i) (h2 : i < 4611686018427387904) (h : -4611686018427387904 ≤ j) (h' : j < 4611686018427387904) : rng3 [.int i, .int j, .int (-1)] S = some (.ok (rangeDn i (i - j).toNat, fun _ => True), S) := by
  show (if rngOk i j = true then some (Except.ok (rangeDn i (i - j).toNat, fun _ => True), S) else none) = _
  rw [if_pos]
  unfold rngOk
  simp [h1, h2, h, h']
def insS (d : D) (r : Sto → Res (List D)) (S1 : Sto) : Res D := match d with
  | .cell n => match S1[n]? with
    | some (some (.lst _)) => bnd (r S1) fun ds S2 => match ds, S2[n]? with
      | [.int i, y], some (some (.lst xs)) => if xs.length < cap ∧ 0 ≤ i ∧ i < 2 ^ 63 then some (.ok .non, S2.set n (some (.lst (xs.take i.toNat ++ [y] ++ xs.drop i.toNat)))) else none
      | _, _ => none
    | _ => none
  | _ => none
@[simp] theorem u_ins {fo : EX} {fr : EA} : xIns fo fr ρ S = bnd (fo ρ S) fun d S1 => insS d (fr ρ) S1 := rfl
theorem okE_ins {r : Sto → Res (List D)} {Q : D → Sto → Prop} {X : Er → Sto → Prop} (h : S[n]? = some (some (.lst xs)))
    (q : OkE (r S) (fun ds S2 => ∃ i y zs, ds = [.int i, y] ∧ S2[n]? = some (some (.lst zs)) ∧ zs.length < cap ∧ 0 ≤ i ∧ i < 2 ^ 63 ∧ Q .non (S2.set n (some (.lst (zs.take i.toNat ++ [y] ++ zs.drop i.toNat))))) X) : OkE (insS (.cell n) r S) Q X := by
  unfold insS
  dsimp only
  rw [h]
  dsimp only
  rw [okE_bnd]
  refine q.imp (fun ds S2 z => ?_) fun _ _ z => z
  obtain ⟨i, y, zs, rfl, z1, z2, z3, z4, z5⟩ := z
  rw [z1]
  dsimp only
  rw [if_pos ⟨z2, z3, z4⟩]
  exact z5
def extS (d : D) (r : Sto → Res D) (S1 : Sto) : Res D := match d with
  | .cell n => match S1[n]? with
    | some (some (.lst _)) => bnd (r S1) fun y S2 => match lstD S2 y, S2[n]? with
      | some ys, some (some (.lst xs)) => if xs.length + ys.length ≤ cap then some (.ok .non, S2.set n (some (.lst (xs ++ ys)))) else none
      | _, _ => none
    | _ => none
  | _ => none
@[simp] theorem u_ext {fo fe : EX} : xExt fo fe ρ S = bnd (fo ρ S) fun d S1 => extS d (fe ρ) S1 := rfl
theorem okE_ext {r : Sto → Res D} {Q : D → Sto → Prop} {X : Er → Sto → Prop} (h : S[n]? = some (some (.lst xs)))
    (q : OkE (r S) (fun y S2 => ∃ ys zs, y = .lst ys ∧ S2[n]? = some (some (.lst zs)) ∧ zs.length + ys.length ≤ cap ∧ Q .non (S2.set n (some (.lst (zs ++ ys))))) X) : OkE (extS (.cell n) r S) Q X := by
  unfold extS
  dsimp only
  rw [h]
  dsimp only
  rw [okE_bnd]
  refine q.imp (fun y S2 z => ?_) fun _ _ z => z
  obtain ⟨ys, zs, rfl, z1, z2, z3⟩ := z
  rw [z1]
  dsimp only [lstD]
  rw [if_pos z2]
  exact z3
theorem gInI_of {neg : Bool} {is : List Int} : gInI neg (.int i) (.lst (is.map D.int)) S = some (.ok (xor neg (decide (i ∈ is))), S) := by
  have e : ∀ is : List Int, toInts (is.map D.int) = some is := by
    intro is
    induction is with
    | nil => rfl
    | cons n ns ih => rw [List.map_cons, toInts, ih]; rfl
  unfold gInI intsD
  dsimp only [lstD, Option.bind_some]
  rw [e]
@[simp] theorem u_chain3 {g g' g'' : D → D → Sto → Res Bool} {a b c e : EX} : xChain3 g g' g'' a b c e ρ S = bnd (a ρ S) fun x S1 => bnd (b ρ S1) fun y S2 => bnd (g x y S2) fun k S3 => if k then bnd (c ρ S3) fun z S4 => bnd (g' y z S4) fun k2 S5 => if k2 then bnd (e ρ S5) fun w S6 => g'' z w S6 else some (.ok false, S5) else some (.ok false, S3) := rfl
def parS3 (i j l : Nat) (ds : List D) (ρ : Frm) (S : Sto) : Option Out := match ds with
  | [a, b, c] => some (.nx (((ρ.set i (some a)).set j (some b)).set l (some c)) S)
  | _ => none
@[simp] theorem u_par3 {a b c : Nat} {fr : EA} : xPar3 a b c fr ρ S = bndS (fr ρ S) ρ fun ds S1 => parS3 a b c ds ρ S1 := rfl
@[simp] theorem u_parS3 {a b c : Nat} {z : D} : parS3 a b c [x, y, z] ρ S = some (.nx (((ρ.set a (some x)).set b (some y)).set c (some z)) S) := rfl
end
end EV

/-! the text of the law k20, printed by gen.py -/
namespace LW
open PySem PySem.Spec PyProof.Rows L2 EV
def topS (i : Nat) : Stmt := PySem.Challenge.pw_everyspan_k20_errors_of_strictness.main.body.getD i (.Pass ⟨0, 0, 0, 0⟩)
abbrev s_Lpool : Stmt := topS 29
abbrev s_Ldraw : Stmt := topS 30
abbrev s_Lkind : Stmt := topS 31
abbrev s_Book_eq : Stmt := inClass (topS 19) 1
abbrev s_is_rule : Stmt := topS 18
abbrev s_Book_init : Stmt := inClass (topS 19) 0
abbrev s_Lmade : Stmt := topS 32
abbrev s_Lbounds : Stmt := topS 33
abbrev s_Lconflict : Stmt := topS 36
abbrev s_check_length : Stmt := topS 21
abbrev s_Book_conflict : Stmt := inClass (topS 19) 7
abbrev s_check_rows : Stmt := topS 20
abbrev s_in_lowest_terms : Stmt := topS 23
abbrev s_shares : Stmt := topS 24
abbrev s_strictest_least : Stmt := topS 26
abbrev s_Lflags : Stmt := topS 34
abbrev s_strictest_most : Stmt := topS 27
abbrev s_Lcaught : Stmt := topS 35
abbrev s_Lright : Stmt := topS 37
abbrev s_law : Stmt := topS 38
abbrev s_SpanError_init : Stmt := inClass (topS 2) 0
def fnm : Nat → Str := fun i => (["bounds", "upper", "lower", "lead", "widest", "border", "more"] : List Str).getD i "?"
theorem nofld_conflict : ∀ i, i < 7 → fnm i ≠ "conflict" := fun i hi => (by decide +kernel : ∀ i : Fin 7, fnm i ≠ "conflict") ⟨i, hi⟩
theorem fnm_inj : ∀ i j, i < 7 → j < 7 → fnm i = fnm j → i = j := fun i j hi hj => (by decide +kernel : ∀ i : Fin 7, ∀ j : Fin 7, fnm i = fnm j → i.1 = j.1) ⟨i, hi⟩ ⟨j, hj⟩
def bigFuel : Nat := 1000000000
def tcs : Nat → Option Nat := fun t => if t = 0 then some 0 else none
def ats : Nat → Nat → D → Option D := fun _ i d => if i = 0 then some d else none
def conv_Book : List (Nat × D) → Option D
  | [(0, d), (1, .non), (2, .non)] => if D.low 0 d = true then some d else none
  | _ => none

end LW

namespace LW
open PySem PySem.Spec PyProof.Rows L2 EV
noncomputable section
def g_Lpool : ES := (xSeq (xSet 2 (xC (.int 0))) (xSeq (xIfS (xCmp (gCmp fun i j => decide (i < j)) (xVar 1) (xCallB gLen (xCons (xVar 0) xNil))) (xSet 2 (xBin gIdx (xVar 0) (xVar 1))) xNx) (xRet (xCel (xLst (xCons (xCallB gMax2 (xCons (xC (.int 0)) (xCons (xBin gSub (xCallB gAbs (xCons (xVar 2) xNil)) (xBin gPow (xC (.int 10)) (xC (.int 18)))) xNil))) (xCons (xBin gAdd (xBin gMod (xCallB gInt (xCons (xVar 2) xNil)) (xC (.int 2305843009213693951))) (xBin gMul (xC (.int 7368787)) (xBin gAdd (xVar 1) (xC (.int 1))))) (xCons (xC (.int 0)) xNil))))))))
def f_Lpool : Fn := fnOf 2 3 g_Lpool
def g_Ldraw : ES := (xSeq (xIfS (xCmp (gCmp fun i j => decide (j < i)) (xBin gIdx (xVar 0) (xC (.int 0))) (xC (.int 0))) (xSeq (xSet 2 (xBin gMod (xCallB gInt (xCons (xBin gIdx (xVar 0) (xC (.int 0))) xNil)) (xVar 1))) (xSeq (xSetIx (xVar 0) (xC (.int 0)) (xBin gDiv (xBin gIdx (xVar 0) (xC (.int 0))) (xVar 1))) (xRet (xVar 2)))) xNx) (xSeq (xSetIx (xVar 0) (xC (.int 2)) (xBin gAdd (xBin gIdx (xVar 0) (xC (.int 2))) (xC (.int 1)))) (xSeq (xSet 3 (xBin gMod (xCallB gInt (xCons (xBin gPow (xBin gAdd (xBin gIdx (xVar 0) (xC (.int 1))) (xBin gMul (xC (.int 15485863)) (xBin gIdx (xVar 0) (xC (.int 2))))) (xC (.int 3))) xNil)) (xC (.int 162259276829213363391578010288127)))) (xSeq (xSet 3 (xBin gMod (xCallB gInt (xCons (xBin gPow (xBin gAdd (xVar 3) (xBin gMul (xC (.int 32452843)) (xBin gIdx (xVar 0) (xC (.int 2))))) (xC (.int 3))) xNil)) (xC (.int 170141183460469231731687303715884105727)))) (xRet (xBin gMod (xCallB gInt (xCons (xBin gDiv (xVar 3) (xC (.int 1048576))) xNil)) (xVar 1)))))))
def f_Ldraw : Fn := fnOf 2 4 g_Ldraw
def g_Lkind : ES := (xSeq (xSet 3 (xBin gIdx (xFrz (xLst (xCons (xC (.int 0)) (xCons (xC (.int 0)) (xCons (xBin gSub (xBin gSub (xC (.int 0)) (xC (.int 1))) (xCall 2 f_Ldraw (xCons (xVar 0) (xCons (xC (.int 3)) xNil)))) (xCons (xBin gSub (xCall 2 f_Ldraw (xCons (xVar 0) (xCons (xC (.int 41)) xNil))) (xC (.int 20))) xNil)))))) (xCall 2 f_Ldraw (xCons (xVar 0) (xCons (xC (.int 4)) xNil))))) (xSeq (xSet 4 (xCallB gMin2 (xCons (xC (.int 20)) (xCons (xBin gAdd (xVar 3) (xBin gIdx (xFrz (xLst (xCons (xC (.int 1)) (xCons (xC (.int 1)) (xCons (xBin gAdd (xC (.int 1)) (xCall 2 f_Ldraw (xCons (xVar 0) (xCons (xC (.int 4)) xNil)))) (xCons (xCall 2 f_Ldraw (xCons (xVar 0) (xCons (xC (.int 20)) xNil))) xNil)))))) (xCall 2 f_Ldraw (xCons (xVar 0) (xCons (xC (.int 4)) xNil))))) xNil)))) (xSeq (xPar 5 6 (xCons (xBin gAdd (xC (.int 1)) (xCall 2 f_Ldraw (xCons (xVar 0) (xCons (xC (.int 12)) xNil)))) (xCons (xCel (xLst xNil)) xNil))) (xSeq (xSet 7 (xBin gAdd (xBin gMul (xVar 3) (xVar 5)) (xCall 2 f_Ldraw (xCons (xVar 0) (xCons (xBin gAdd (xBin gMul (xBin gSub (xVar 4) (xVar 3)) (xVar 5)) (xC (.int 1))) xNil))))) (xSeq (xFor (xRng1 (xCons (xCall 2 f_Ldraw (xCons (xVar 0) (xCons (xBin gAdd (xVar 2) (xC (.int 1))) xNil))) xNil)) (EV.gName 8) (xSeq (xSet 9 (xBin gAdd (xC (.int 1)) (xCall 2 f_Ldraw (xCons (xVar 0) (xCons (xVar 1) xNil))))) (xSeq (xSet 10 (xBin gSub (xBin gDiv (xBin gMul (xVar 9) (xVar 7)) (xVar 5)) (xBin gIdx (xFrz (xLst (xCons (xC (.int 0)) (xCons (xC (.int 0)) (xCons (xCall 2 f_Ldraw (xCons (xVar 0) (xCons (xC (.int 3)) xNil))) (xCons (xCall 2 f_Ldraw (xCons (xVar 0) (xCons (xBin gMul (xC (.int 20)) (xVar 9)) xNil))) xNil)))))) (xCall 2 f_Ldraw (xCons (xVar 0) (xCons (xC (.int 4)) xNil)))))) (xSeq (xSet 11 (xBin gSub (xC (.int 0)) (xBin gDiv (xBin gSub (xC (.int 0)) (xBin gMul (xVar 9) (xVar 7))) (xVar 5)))) (xSeq (xSet 11 (xBin gAdd (xVar 11) (xBin gIdx (xFrz (xLst (xCons (xC (.int 0)) (xCons (xC (.int 0)) (xCons (xCall 2 f_Ldraw (xCons (xVar 0) (xCons (xC (.int 3)) xNil))) (xCons (xCall 2 f_Ldraw (xCons (xVar 0) (xCons (xBin gMul (xC (.int 20)) (xVar 9)) xNil))) xNil)))))) (xCall 2 f_Ldraw (xCons (xVar 0) (xCons (xC (.int 4)) xNil)))))) (xExpr (xApp (xVar 6) (xTup (xCons (xVar 9) (xCons (xCallB gMax2 (xCons (xUn gNeg (xC (.int 1000))) (xCons (xVar 10) xNil))) (xCons (xCallB gMin2 (xCons (xC (.int 1000)) (xCons (xVar 11) xNil))) xNil))))))))))) (xRet (xTup (xCons (xVar 3) (xCons (xVar 4) (xCons (xFrzV 6) xNil))))))))))
def f_Lkind : Fn := cutF (fnOf 3 12 g_Lkind)
def g_Book_eq : ES := (xRet (xBl (xAnd (xTs (xIsi tcs 0 (xVar 1))) (xCmp (gEq false) (xUn (gFld 0 0 tcs ats) (xVar 0)) (xUn (gFld 0 0 tcs ats) (xVar 1))))))
def f_Book_eq : Fn := fnOf 2 2 g_Book_eq
def g_is_rule : ES := (xSeq (xAsg (gTupT 3 (gConsT (EV.gName 1) (gConsT (EV.gName 2) (gConsT (EV.gName 3) gNilT)))) (xVar 0)) (xRet (xBl (xAnd (xCmp (gCmp fun i j => decide (j ≤ i)) (xVar 1) (xC (.int 1))) (xCmp (gCmp fun i j => decide (i ≤ j)) (xVar 2) (xVar 3))))))
def f_is_rule : Fn := fnOf 1 4 g_is_rule
def g_Book_init : ES := (xSeq (xIfS (xCmp (gCmp fun i j => decide (j < i)) (xVar 1) (xVar 2)) (xRaise 11 (xCons (xTup (xCons (xVar 1) (xCons (xVar 2) xNil))) xNil)) xNx) (xSeq (xFor (xEnum (xCons (xVar 3) xNil)) (gTupT 2 (gConsT (EV.gName 4) (gConsT (EV.gName 5) gNilT))) (xIfS (xNot (xTs (xCall 1 f_is_rule (xCons (xVar 5) xNil)))) (xRaise 12 (xCons (xVar 4) xNil)) xNx)) (xSeq (xSetF 0 0 (xVar 0) (xTup (xCons (xTup (xCons (xC (.int 1)) (xCons (xVar 1) (xCons (xVar 2) xNil)))) (xStar (xVar 3) xNil)))) (xSeq (xSetF 0 1 (xVar 0) (xC .non)) (xSetF 0 2 (xVar 0) (xC .non))))))
def f_Book_init : Fn := fnOf 4 6 g_Book_init
def g_Lmade : ES := (xRet (xCall 3 (mkO 0 0 f_Book_init conv_Book) (xCons (xBin gIdx (xVar 0) (xC (.int 0))) (xCons (xBin gIdx (xVar 0) (xC (.int 1))) (xCons (xFrz (xCallF gList (xCons (xBin gIdx (xVar 0) (xC (.int 2))) xNil))) xNil)))))
def f_Lmade : Fn := fnOf 1 1 g_Lmade
def g_Lbounds : ES := (xRet (xFrz (fun ρ S => bnd ((xFrz (xLst (xCons (xTup (xCons (xC (.int 1)) (xCons (xBin gIdx (xVar 0) (xC (.int 0))) (xCons (xBin gIdx (xVar 0) (xC (.int 1))) xNil)))) xNil))) ρ S) fun x S1 => bnd ((xFrz (xCallF gList (xCons (xBin gIdx (xVar 0) (xC (.int 2))) xNil))) ρ S1) fun y S2 => gCat x y S2)))
def f_Lbounds : Fn := fnOf 1 1 g_Lbounds
def g_Lconflict : ES := (xSeq (xSet 1 (xCall 1 f_Lbounds (xCons (xVar 0) xNil))) (xSeq (xFor (xEnum (xCons (xVar 1) xNil)) (gTupT 2 (gConsT (EV.gName 2) (gConsT (EV.gName 3) gNilT))) (xFor (xEnum (xCons (xVar 1) xNil)) (gTupT 2 (gConsT (EV.gName 4) (gConsT (EV.gName 5) gNilT))) (xIfS (xCmp (gCmp fun i j => decide (j < i)) (xBin gMul (xBin gIdx (xVar 3) (xC (.int 1))) (xBin gIdx (xVar 5) (xC (.int 0)))) (xBin gMul (xBin gIdx (xVar 5) (xC (.int 2))) (xBin gIdx (xVar 3) (xC (.int 0))))) (xRet (xFrz (xLst (xCons (xTup (xCons (xVar 2) (xCons (xVar 4) xNil))) xNil)))) xNx))) (xRet (xFrz (xLst xNil)))))
def f_Lconflict : Fn := fnOf 1 6 g_Lconflict
def g_check_length : ES := (xIfS (xCmp (gCmp fun i j => decide (i < j)) (xVar 0) (xVar 1)) (xRaise 13 (xCons (xVar 0) xNil)) xNx)
def f_check_length : Fn := fnOf 2 2 g_check_length
def g_Book_conflict : ES := (xSeq (xFor (xEnum (xCons (xUn (gFld 0 0 tcs ats) (xVar 0)) xNil)) (gTupT 2 (gConsT (EV.gName 1) (gConsT (gTupT 3 (gConsT (EV.gName 2) (gConsT (EV.gName 3) (gConsT (EV.gName 4) gNilT)))) gNilT))) (xFor (xEnum (xCons (xUn (gFld 0 0 tcs ats) (xVar 0)) xNil)) (gTupT 2 (gConsT (EV.gName 5) (gConsT (gTupT 3 (gConsT (EV.gName 6) (gConsT (EV.gName 7) (gConsT (EV.gName 8) gNilT)))) gNilT))) (xIfS (xCmp (gCmp fun i j => decide (j < i)) (xBin gMul (xVar 3) (xVar 6)) (xBin gMul (xVar 8) (xVar 2))) (xRet (xTup (xCons (xVar 1) (xCons (xVar 5) xNil)))) xNx))) (xRet (xC .non)))
def f_Book_conflict : Fn := fnOf 1 9 g_Book_conflict
def g_check_rows : ES := (xSeq (xSet 1 (xMeth tcs 0 1 f_Book_conflict (xVar 0) xNil)) (xIfS (xCmp (gIsN true) (xVar 1) (xC .non)) (xRaise 17 (xCons (xVar 1) xNil)) xNx))
def f_check_rows : Fn := fnOf 1 2 g_check_rows
def g_in_lowest_terms : ES := (xSeq (xPar 2 3 (xCons (xCallB gAbs (xCons (xVar 0) xNil)) (xCons (xVar 1) xNil))) (xSeq (xWhile (fun ρ _ => slotN 3 ρ + 1) (xCmp (gEq true) (xVar 3) (xC (.int 0))) (xPar 2 3 (xCons (xVar 3) (xCons (xBin gMod (xVar 2) (xVar 3)) xNil)))) (xRet (xTup (xCons (xBin gDiv (xVar 0) (xVar 2)) (xCons (xBin gDiv (xVar 1) (xVar 2)) xNil))))))
def f_in_lowest_terms : Fn := fnOf 2 4 g_in_lowest_terms
def g_shares : ES := (xSeq (xExpr (xCall 1 f_check_rows (xCons (xVar 0) xNil))) (xSeq (xAsg2 (EV.gName 1) (EV.gName 2) (xBin gIdx (xUn (gFld 0 0 tcs ats) (xVar 0)) (xC (.int 0)))) (xSeq (xFor (xSeqI (xUn (gFld 0 0 tcs ats) (xVar 0))) (EV.gName 3) (xSeq (xIfS (xCmp (gCmp fun i j => decide (j < i)) (xBin gMul (xBin gIdx (xVar 3) (xC (.int 1))) (xBin gIdx (xVar 1) (xC (.int 0)))) (xBin gMul (xBin gIdx (xVar 1) (xC (.int 1))) (xBin gIdx (xVar 3) (xC (.int 0))))) (xSet 1 (xVar 3)) xNx) (xIfS (xCmp (gCmp fun i j => decide (i < j)) (xBin gMul (xBin gIdx (xVar 3) (xC (.int 2))) (xBin gIdx (xVar 2) (xC (.int 0)))) (xBin gMul (xBin gIdx (xVar 2) (xC (.int 2))) (xBin gIdx (xVar 3) (xC (.int 0))))) (xSet 2 (xVar 3)) xNx))) (xRet (xTup (xCons (xCall 2 f_in_lowest_terms (xCons (xBin gIdx (xVar 1) (xC (.int 1))) (xCons (xBin gIdx (xVar 1) (xC (.int 0))) xNil))) (xCons (xCall 2 f_in_lowest_terms (xCons (xBin gIdx (xVar 2) (xC (.int 2))) (xCons (xBin gIdx (xVar 2) (xC (.int 0))) xNil))) xNil)))))))
def f_shares : Fn := fnOf 1 4 g_shares
def g_strictest_least : ES := (xSeq (xAsg (gTupT 2 (gConsT (EV.gName 2) (gConsT (EV.gName 3) gNilT))) (xBin gIdx (xCall 1 f_shares (xCons (xVar 0) xNil)) (xC (.int 1)))) (xSeq (xExpr (xCall 2 f_check_length (xCons (xVar 1) (xCons (xC (.int 1)) xNil)))) (xRet (xBin gDiv (xBin gMul (xVar 1) (xVar 2)) (xVar 3)))))
def f_strictest_least : Fn := fnOf 2 4 g_strictest_least
def g_Lflags : ES := (xSeq (xSet 1 (xIsE 0 (okL []))) (xSeq (xSet 1 (xBl (xOr (xTs (xVar 1)) (xOr (xTs (xIsE 0 (okL []))) (xNot (xTs (xIsE 0 (okL [17, 13])))))))) (xRet (xFrz (xLst (xCons (xIf (xTs (xVar 1)) (xC (.str "odd")) (xBin gAddS (xBin gMulS (xC (.str "r")) (xCallB gInt (xCons (xIsE 0 (okL [17])) xNil))) (xBin gMulS (xC (.str "l")) (xCallB gInt (xCons (xIsE 0 (okL [13])) xNil))))) (xCons (xErV 0) xNil)))))))
def f_Lflags : Fn := fnOf 1 2 g_Lflags
def g_strictest_most : ES := (xSeq (xAsg (gTupT 2 (gConsT (EV.gName 2) (gConsT (EV.gName 3) gNilT))) (xBin gIdx (xCall 1 f_shares (xCons (xVar 0) xNil)) (xC (.int 0)))) (xSeq (xExpr (xCall 2 f_check_length (xCons (xVar 1) (xCons (xC (.int 1)) xNil)))) (xRet (xUn gNeg (xBin gDiv (xBin gMul (xUn gNeg (xVar 1)) (xVar 2)) (xVar 3))))))
def f_strictest_most : Fn := fnOf 2 4 g_strictest_most
def g_Lcaught : ES := (xSeq (xTry 3 (okL [17, 13]) (xIfS (xCmp (gEq false) (xVar 0) (xC (.int 0))) (xExpr (xCall 2 f_strictest_least (xCons (xVar 1) (xCons (xVar 2) xNil)))) (xIfS (xCmp (gEq false) (xVar 0) (xC (.int 1))) (xExpr (xCallK 2 2 [1, 0] f_strictest_least (xCons (xVar 2) (xCons (xVar 1) xNil)))) (xIfS (xCmp (gEq false) (xVar 0) (xC (.int 2))) (xExpr (xCall 2 f_strictest_most (xCons (xVar 1) (xCons (xVar 2) xNil)))) (xExpr (xCallK 2 2 [1, 0] f_strictest_most (xCons (xVar 2) (xCons (xVar 1) xNil))))))) (fun _ => (xRet (xCall 1 f_Lflags (xCons (xVar 3) xNil))))) (xRet (xFrz (xLst xNil))))
def f_Lcaught : Fn := fnOf 3 4 g_Lcaught
def g_Lright : ES := (xSeq (xSet 1 (xCall 3 f_Lkind (xCons (xVar 0) (xCons (xC (.int 8)) (xCons (xC (.int 3)) xNil))))) (xSeq (xIfS (xCmp (gEq false) (xCall 2 f_Ldraw (xCons (xVar 0) (xCons (xC (.int 2)) xNil))) (xC (.int 0))) (xSeq (xPar 2 3 (xCons (xBin gAdd (xC (.int 1)) (xCall 2 f_Ldraw (xCons (xVar 0) (xCons (xC (.int 8)) xNil)))) (xCons (xBin gSub (xCall 2 f_Ldraw (xCons (xVar 0) (xCons (xC (.int 41)) xNil))) (xC (.int 20))) xNil))) (xSet 1 (xTup (xCons (xBin gIdx (xVar 1) (xC (.int 0))) (xCons (xBin gIdx (xVar 1) (xC (.int 1))) (xCons (xFrz (fun ρ S => bnd ((xBin gIdx (xVar 1) (xC (.int 2))) ρ S) fun x S1 => bnd ((xFrz (xLst (xCons (xTup (xCons (xVar 2) (xCons (xVar 3) (xCons (xBin gAdd (xVar 3) (xCall 2 f_Ldraw (xCons (xVar 0) (xCons (xC (.int 3)) xNil)))) xNil)))) xNil))) ρ S1) fun y S2 => gCat x y S2)) xNil)))))) xNx) (xSeq (xPar 4 5 (xCons (xCall 1 f_Lmade (xCons (xVar 1) xNil)) (xCons (xCall 1 f_Lconflict (xCons (xVar 1) xNil)) xNil))) (xSeq (xFor (xSeqI (xTup (xCons (xC (.int 1)) (xCons (xC (.int 40)) (xCons (xC (.int 0)) (xCons (xUn gNeg (xC (.int 1))) (xCons (xBin gSub (xC (.int 0)) (xCall 2 f_Ldraw (xCons (xVar 0) (xCons (xBin gPow (xC (.int 10)) (xC (.int 30))) xNil)))) xNil))))))) (EV.gName 2) (xSeq (xSet 6 (xFrz (xLst xNil))) (xSeq (xIfS (xCmp (gEq true) (xVar 5) (xFrz (xLst xNil))) (xSet 6 (xFrz (xLst (xCons (xC (.str "r")) (xCons (xBin gIdx (xVar 5) (xC (.int 0))) xNil))))) (xIfS (xCmp (gCmp fun i j => decide (i < j)) (xVar 2) (xC (.int 1))) (xSet 6 (xFrz (xLst (xCons (xC (.str "l")) (xCons (xVar 2) xNil))))) xNx)) (xFor (xRng1 (xCons (xC (.int 4)) xNil)) (EV.gName 7) (xIfS (xCmp (gEq true) (xCallB gReprR (xCons (xCall 3 f_Lcaught (xCons (xVar 7) (xCons (xVar 4) (xCons (xVar 2) xNil)))) xNil)) (xCallB gReprR (xCons (xVar 6) xNil))) (xRet (xC (.bl false))) xNx))))) (xRet (xBl (xCmp (gOwnEq tcs 0 f_Book_eq) (xVar 4) (xCall 1 f_Lmade (xCons (xVar 1) xNil)))))))))
def f_Lright : Fn := fnOf 1 8 g_Lright
def g_law : ES := (xSeq (xFor (xRng1 (xCons (xCallB gMax2 (xCons (xC (.int 1)) (xCons (xCallB gMin2 (xCons (xC (.int 6)) (xCons (xCallB gLen (xCons (xVar 0) xNil)) xNil))) xNil))) xNil)) (EV.gName 1) (xSeq (xSet 2 (xCall 2 f_Lpool (xCons (xVar 0) (xCons (xVar 1) xNil)))) (xFor (xRng1 (xCons (xC (.int 4)) xNil)) (EV.gName 3) (xIfS (xNot (xTs (xCall 1 f_Lright (xCons (xVar 2) xNil)))) (xRet (xC (.bl false))) xNx)))) (xRet (xC (.bl true))))
def f_law : Fn := fnOf 1 4 g_law
end
end LW

/-! P0: what ways cost: lists of steps, the least costs, their window, their period. No program in sight. -/
namespace CT
abbrev Mv := Int × Int
def sW (l : List Mv) : Int := (l.map (·.1)).sum
def sC (l : List Mv) : Int := (l.map (·.2)).sum
@[simp] theorem sW_nil : sW [] = 0 := rfl
@[simp] theorem sC_nil : sC [] = 0 := rfl
@[simp] theorem sW_cons (s : Mv) (l : List Mv) : sW (s :: l) = s.1 + sW l := rfl
@[simp] theorem sC_cons (s : Mv) (l : List Mv) : sC (s :: l) = s.2 + sC l := rfl
@[simp] theorem sW_app (l m : List Mv) : sW (l ++ m) = sW l + sW m := by simp [sW]
@[simp] theorem sC_app (l m : List Mv) : sC (l ++ m) = sC l + sC m := by simp [sC]
def Way (st : List Mv) (n c : Int) : Prop := ∃ l : List Mv, (∀ s, s ∈ l → s ∈ st) ∧ sW l = n ∧ sC l = c
def Best (st : List Mv) (n c : Int) : Prop := Way st n c ∧ ∀ c', Way st n c' → c ≤ c'
theorem Best.uniq {st : List Mv} {n c c' : Int} (h : Best st n c) (h' : Best st n c') : c = c' :=
  Int.le_antisymm (h.2 _ h'.1) (h'.2 _ h.1)
theorem Way.nil (st : List Mv) : Way st 0 0 := ⟨[], fun _ h => (List.not_mem_nil h).elim, rfl, rfl⟩
theorem Way.step {st : List Mv} {n c : Int} (h : Way st n c) {s : Mv} (hs : s ∈ st) : Way st (n + s.1) (c + s.2) := by
  obtain ⟨l, h1, h2, h3⟩ := h
  refine ⟨s :: l, fun t ht => ?_, ?_, ?_⟩
  · rcases List.mem_cons.mp ht with z | z
    · rw [z]; exact hs
    · exact h1 t z
  · rw [sW_cons]; omega
  · rw [sC_cons]; omega
/-- the sums on the way stay within -/
def InW (lo hi : Int) : Int → List Mv → Prop
  | _, [] => True
  | x, s :: l => lo ≤ x + s.1 ∧ x + s.1 ≤ hi ∧ InW lo hi (x + s.1) l
theorem neg_ex : ∀ {l : List Mv}, sW l < 0 → ∃ s, s ∈ l ∧ s.1 < 0
  | [], h => by simp at h
  | s :: l, h => by
    by_cases z : s.1 < 0
    · exact ⟨s, List.mem_cons_self .., z⟩
    · rw [sW_cons] at h
      obtain ⟨t, h1, h2⟩ := neg_ex (l := l) (by omega)
      exact ⟨t, List.mem_cons_of_mem _ h1, h2⟩
theorem all_neg : ∀ {l : List Mv}, (∀ s, s ∈ l → s.1 ≤ 0) → sW l ≤ 0
  | [], _ => Int.le_refl _
  | s :: l, h => by
    have h1 := h s (List.mem_cons_self ..)
    have h2 := all_neg (l := l) fun t ht => h t (List.mem_cons_of_mem _ ht)
    rw [sW_cons]; omega
/-- steps in a sequence that keeps the sums near -/
theorem arrange {w : Int} (lo b : Int) (hlb : lo ≤ b + 1 - w) : ∀ (n : Nat) (l : List Mv) (x : Int), l.length = n → (∀ s, s ∈ l → -w ≤ s.1 ∧ s.1 ≤ w) → lo ≤ x → x ≤ b + w → lo ≤ x + sW l → x + sW l ≤ b →
    ∃ l', (∀ s, s ∈ l' → s ∈ l) ∧ sW l' = sW l ∧ sC l' = sC l ∧ InW lo (b + w) x l'
  | 0, l, x, hn, _, _, _, _, _ => by
    have : l = [] := List.length_eq_zero_iff.mp hn
    subst this
    exact ⟨[], fun _ h => h, rfl, rfl, trivial⟩
  | n + 1, l, x, hn, hw, h1, h2, h3, h4 => by
    have pick : ∃ s, s ∈ l ∧ lo ≤ x + s.1 ∧ x + s.1 ≤ b + w := by
      by_cases hx : b < x
      · obtain ⟨s, hs, hs0⟩ := neg_ex (l := l) (by omega)
        have := hw s hs
        exact ⟨s, hs, by omega, by omega⟩
      · by_cases hp : ∃ s, s ∈ l ∧ 0 < s.1
        · obtain ⟨s, hs, hs0⟩ := hp
          have := hw s hs
          exact ⟨s, hs, by omega, by omega⟩
        · match l, hn with
          | s :: r, _ =>
            have hr : ∀ t, t ∈ s :: r → t.1 ≤ 0 := fun t ht => by
              by_cases z : 0 < t.1
              · exact absurd ⟨t, ht, z⟩ hp
              · omega
            have h5 := all_neg (l := r) fun t ht => hr t (List.mem_cons_of_mem _ ht)
            have h6 := hr s (List.mem_cons_self ..)
            rw [sW_cons] at h3
            exact ⟨s, List.mem_cons_self .., by omega, by omega⟩
    obtain ⟨s, hs, p1, p2⟩ := pick
    obtain ⟨l1, l2, rfl⟩ := List.append_of_mem hs
    have e1 : sW (l1 ++ s :: l2) = s.1 + sW (l1 ++ l2) := by simp; omega
    have e2 : sC (l1 ++ s :: l2) = s.2 + sC (l1 ++ l2) := by simp; omega
    have sub : ∀ t, t ∈ l1 ++ l2 → t ∈ l1 ++ s :: l2 := fun t ht => by
      rcases List.mem_append.mp ht with z | z
      · exact List.mem_append_left _ z
      · exact List.mem_append_right _ (List.mem_cons_of_mem _ z)
    obtain ⟨l', q1, q2, q3, q4⟩ := arrange lo b hlb n (l1 ++ l2) (x + s.1) (by simp at hn ⊢; omega) (fun t ht => hw t (sub t ht)) p1 p2 (by rw [e1] at h3; omega) (by rw [e1] at h4; omega)
    refine ⟨s :: l', fun t ht => ?_, by rw [sW_cons, q2, e1], by rw [sC_cons, q3, e2], p1, p2, q4⟩
    rcases List.mem_cons.mp ht with z | z
    · rw [z]; exact hs
    · exact sub t (q1 t z)
/-- a table that no step makes less -/
theorem closed_le {st : List Mv} {lo hi : Int} {f : Int → Int} (h : ∀ x s, s ∈ st → lo ≤ x → x ≤ hi → lo ≤ x + s.1 → x + s.1 ≤ hi → f (x + s.1) ≤ f x + s.2) : ∀ (l : List Mv) (x : Int), (∀ s, s ∈ l → s ∈ st) → lo ≤ x → x ≤ hi → InW lo hi x l → f (x + sW l) ≤ f x + sC l
  | [], x, _, _, _, _ => by simp
  | s :: l, x, hs, h1, h2, ⟨p1, p2, p3⟩ => by
    have q := h x s (hs s (List.mem_cons_self ..)) h1 h2 p1 p2
    have r := closed_le h l (x + s.1) (fun t ht => hs t (List.mem_cons_of_mem _ ht)) p1 p2 p3
    rw [sW_cons, sC_cons, ← Int.add_assoc]
    omega
/-- a table over a window is the least costs, if it is closed, and each of its numbers is a way's -/
theorem table_best {st : List Mv} {w lo hi n : Int} {f : Int → Int} (hw : ∀ s, s ∈ st → -w ≤ s.1 ∧ s.1 ≤ w) (w0 : 1 ≤ w) (h : ∀ x s, s ∈ st → lo ≤ x → x ≤ hi → lo ≤ x + s.1 → x + s.1 ≤ hi → f (x + s.1) ≤ f x + s.2) (f0 : f 0 ≤ 0)
    (hn : (0 ≤ n ∧ lo ≤ -w ∧ n + w ≤ hi) ∨ (n ≤ 0 ∧ lo ≤ n - w ∧ w ≤ hi)) (hr : Way st n (f n)) : Best st n (f n) := by
  refine ⟨hr, fun c hc => ?_⟩
  obtain ⟨l, l1, l2, l3⟩ := hc
  rcases hn with ⟨a, b, c'⟩ | ⟨a, b, c'⟩
  · obtain ⟨l', q1, q2, q3, q4⟩ := arrange (w := w) (-w) n (by omega) l.length l 0 rfl (fun s hs => hw s (l1 s hs)) (by omega) (by omega) (by omega) (by omega)
    have wid : ∀ (l : List Mv) (x : Int), InW (-w) (n + w) x l → InW lo hi x l := by
      intro l
      induction l with
      | nil => exact fun _ _ => trivial
      | cons s l ih => exact fun x z => ⟨by have := z.1; omega, by have := z.2.1; omega, ih _ z.2.2⟩
    have q := closed_le h l' 0 (fun s hs => l1 s (q1 s hs)) (by omega) (by omega) (wid _ _ q4)
    rw [Int.zero_add, q2, q3, l2, l3] at q
    omega
  · obtain ⟨l', q1, q2, q3, q4⟩ := arrange (w := w) (n - w) 0 (by omega) l.length l 0 rfl (fun s hs => hw s (l1 s hs)) (by omega) (by omega) (by omega) (by omega)
    have wid : ∀ (l : List Mv) (x : Int), InW (n - w) (0 + w) x l → InW lo hi x l := by
      intro l
      induction l with
      | nil => exact fun _ _ => trivial
      | cons s l ih => exact fun x z => ⟨by have := z.1; omega, by have := z.2.1; omega, ih _ z.2.2⟩
    have q := closed_le h l' 0 (fun s hs => l1 s (q1 s hs)) (by omega) (by omega) (wid _ _ q4)
    rw [Int.zero_add, q2, q3, l2, l3] at q
    omega
/-! ### costs made less by a share -/
def red (a b : Int) (st : List Mv) : List Mv := st.map fun s => (s.1, s.2 * a - b * s.1)
theorem red_lift {a b : Int} {st : List Mv} : ∀ (l : List Mv), (∀ s, s ∈ l → s ∈ red a b st) → ∃ m : List Mv, (∀ s, s ∈ m → s ∈ st) ∧ sW m = sW l ∧ sC l = a * sC m - b * sW m
  | [], _ => ⟨[], fun _ h => (List.not_mem_nil h).elim, rfl, by simp⟩
  | s :: l, h => by
    obtain ⟨t, ht, rfl⟩ := List.mem_map.mp (h s (List.mem_cons_self ..))
    obtain ⟨m, m1, m2, m3⟩ := red_lift l fun u hu => h u (List.mem_cons_of_mem _ hu)
    refine ⟨t :: m, fun u hu => ?_, ?_, ?_⟩
    · rcases List.mem_cons.mp hu with z | z
      · rw [z]; exact ht
      · exact m1 u z
    · rw [sW_cons, sW_cons, m2]
    · rw [sC_cons, sC_cons, sW_cons, m3, Int.mul_add, Int.mul_add, Int.mul_comm t.2 a]
      omega
theorem Way.red {a b : Int} {st : List Mv} {n c : Int} (h : Way st n c) : Way (red a b st) n (a * c - b * n) := by
  obtain ⟨l, l1, rfl, rfl⟩ := h
  refine ⟨l.map fun s => (s.1, s.2 * a - b * s.1), fun s hs => ?_, ?_, ?_⟩
  · obtain ⟨t, ht, rfl⟩ := List.mem_map.mp hs
    exact List.mem_map_of_mem (l1 t ht)
  · clear l1
    induction l with
    | nil => rfl
    | cons s l ih => rw [List.map_cons, sW_cons, sW_cons, ih]
  · clear l1
    induction l with
    | nil => simp
    | cons s l ih => rw [List.map_cons, sC_cons, sC_cons, sW_cons, ih, Int.mul_add, Int.mul_add, Int.mul_comm s.2 a]; omega
theorem Best.unred {a b : Int} {st : List Mv} {n r : Int} (ha : 0 < a) (h : Best (CT.red a b st) n r) : ∃ c, Best st n c ∧ r = a * c - b * n := by
  obtain ⟨⟨l, l1, l2, l3⟩, h2⟩ := h
  obtain ⟨m, m1, m2, m3⟩ := red_lift l l1
  refine ⟨sC m, ⟨⟨m, m1, m2.trans l2, rfl⟩, fun c' hc => ?_⟩, by rw [← l3, m3, m2, l2]⟩
  have := h2 _ hc.red
  rw [← l3, m3, m2, l2] at this
  exact Int.le_of_mul_le_mul_left (by omega) ha
theorem Best.red {a b : Int} {st : List Mv} {n c : Int} (ha : 0 < a) (h : Best st n c) : Best (CT.red a b st) n (a * c - b * n) := by
  refine ⟨h.1.red, fun r hr => ?_⟩
  obtain ⟨l, l1, l2, l3⟩ := hr
  obtain ⟨m, m1, m2, m3⟩ := red_lift l l1
  have := h.2 (sC m) ⟨m, m1, m2.trans l2, rfl⟩
  have q : a * c ≤ a * sC m := Int.mul_le_mul_of_nonneg_left this (by omega)
  rw [← l3, m3, m2, l2]
  omega
end CT

/-! P1: behind a border the least costs come again. -/
namespace CT
theorem pigeon : ∀ (a : Nat) (f : Nat → Nat), (∀ i, i ≤ a → f i < a) → ∃ i j, i < j ∧ j ≤ a ∧ f i = f j
  | 0, f, h => absurd (h 0 (Nat.le_refl _)) (Nat.not_lt_zero _)
  | a + 1, f, h => by
    by_cases c : ∃ i, i < a + 1 ∧ f i = f (a + 1)
    · obtain ⟨i, h1, h2⟩ := c
      exact ⟨i, a + 1, h1, Nat.le_refl _, h2⟩
    · have ne : ∀ i, i < a + 1 → f i ≠ f (a + 1) := fun i hi z => c ⟨i, hi, z⟩
      have hv := h (a + 1) (Nat.le_refl _)
      obtain ⟨i, j, h1, h2, h3⟩ := pigeon a (fun i => if f i = a then f (a + 1) else f i) fun i hi => by
        have q1 := h i (by omega)
        have q2 := ne i (by omega)
        try dsimp only
        split
        · rename_i z
          rw [z] at q2
          omega
        · omega
      refine ⟨i, j, h1, by omega, ?_⟩
      have n1 := ne i (by omega)
      have n2 := ne j (by omega)
      try dsimp only at h3
      split at h3
      · rename_i z1
        split at h3
        · rename_i z2
          rw [z1, z2]
        · exact absurd h3.symm n2
      · split at h3
        · exact absurd h3 n1
        · exact h3
/-- among so many steps some go on by a multiple -/
theorem segment {a : Nat} (ha : 0 < a) {l : List Mv} (hl : a ≤ l.length) : ∃ l1 m l2, l = l1 ++ (m ++ l2) ∧ m ≠ [] ∧ (a : Int) ∣ sW m := by
  obtain ⟨i, j, h1, h2, h3⟩ := pigeon a (fun i => (sW (l.take i) % (a : Int)).toNat) fun i _ => by
    have q1 := Int.emod_nonneg (sW (l.take i)) (show (a : Int) ≠ 0 by omega)
    have q2 := Int.emod_lt_of_pos (sW (l.take i)) (show (0 : Int) < a by omega)
    try dsimp only
    omega
  have e : sW (l.take i) % (a : Int) = sW (l.take j) % (a : Int) := by
    have q1 := Int.emod_nonneg (sW (l.take i)) (show (a : Int) ≠ 0 by omega)
    have q2 := Int.emod_nonneg (sW (l.take j)) (show (a : Int) ≠ 0 by omega)
    try dsimp only at h3
    omega
  have s1 : l.take j = l.take i ++ (l.drop i).take (j - i) := by
    have : j = i + (j - i) := by omega
    conv => lhs; rw [this]
    exact List.take_add
  refine ⟨l.take i, (l.drop i).take (j - i), l.drop j, ?_, fun z => ?_, ?_⟩
  · rw [← List.append_assoc, ← s1, List.take_append_drop]
  · have := congrArg List.length z
    simp at this
    omega
  · rw [s1, sW_app] at e
    have : (sW (l.take i) + sW ((l.drop i).take (j - i)) - sW (l.take i)) % (a : Int) = 0 := by
      rw [← Int.emod_emod_of_dvd _ (Int.dvd_refl _), Int.sub_emod, ← e]
      simp
    rw [Int.add_comm, Int.add_sub_cancel] at this
    exact Int.dvd_of_emod_eq_zero this
theorem filter_sW (p : Mv → Bool) : ∀ l : List Mv, sW (l.filter p) + sW (l.filter fun s => !p s) = sW l ∧ sC (l.filter p) + sC (l.filter fun s => !p s) = sC l
  | [] => ⟨rfl, rfl⟩
  | s :: l => by
    obtain ⟨h1, h2⟩ := filter_sW p l
    cases e : p s <;> simp [e] <;> omega
theorem sW_le {w : Int} : ∀ {l : List Mv}, (∀ s, s ∈ l → s.1 ≤ w) → sW l ≤ w * l.length
  | [], _ => by simp
  | s :: l, h => by
    have h1 := h s (List.mem_cons_self ..)
    have h2 := sW_le (l := l) fun t ht => h t (List.mem_cons_of_mem _ ht)
    rw [sW_cons, List.length_cons, Int.natCast_add, Int.mul_add]
    simp
    omega
theorem sC_pos : ∀ {l : List Mv}, (∀ s, s ∈ l → 0 ≤ s.2) → 0 ≤ sC l
  | [], _ => Int.le_refl _
  | s :: l, h => by
    have h1 := h s (List.mem_cons_self ..)
    have h2 := sC_pos (l := l) fun t ht => h t (List.mem_cons_of_mem _ ht)
    rw [sC_cons]; omega
theorem sW_pos : ∀ {l : List Mv}, l ≠ [] → (∀ s, s ∈ l → 0 < s.1) → 0 < sW l
  | [], h, _ => absurd rfl h
  | [s], _, h => by simpa using h s (List.mem_cons_self ..)
  | s :: t :: l, _, h => by
    have h1 := h s (List.mem_cons_self ..)
    have h2 := sW_pos (l := t :: l) (fun z => nomatch z) fun u hu => h u (List.mem_cons_of_mem _ hu)
    rw [sW_cons]; omega
theorem sW_rep (a c : Int) : ∀ k : Nat, sW (List.replicate k (a, c)) = k * a ∧ sC (List.replicate k (a, c)) = k * c
  | 0 => by simp
  | k + 1 => by
    obtain ⟨h1, h2⟩ := sW_rep a c k
    rw [List.replicate_succ, sW_cons, sC_cons, h1, h2]
    constructor <;> (rw [Int.natCast_add, Int.add_mul]; simp; omega)
theorem period {st : List Mv} {a : Nat} {w n r : Int} (ha : 0 < a) (h0 : ∀ s, s ∈ st → 0 ≤ s.2) (hw : ∀ s, s ∈ st → s.1 ≤ w) (hl : ((a : Int), 0) ∈ st) (hn : a * w ≤ n) (h : Best st n r) : Best st (n + a) r := by
  refine ⟨by simpa using h.1.step hl, fun c hc => ?_⟩
  obtain ⟨l, l1, l2, l3⟩ := hc
  obtain ⟨f1, f2⟩ := filter_sW (fun s => decide (0 < s.1)) l
  generalize hp : l.filter (fun s => decide (0 < s.1)) = p at f1 f2
  generalize hq : l.filter (fun s => !decide (0 < s.1)) = q at f1 f2
  have p1 : ∀ s, s ∈ p → s ∈ st ∧ 0 < s.1 := fun s hs => by
    rw [← hp, List.mem_filter] at hs
    exact ⟨l1 s hs.1, by simpa using hs.2⟩
  have q1 : ∀ s, s ∈ q → s ∈ st ∧ s.1 ≤ 0 := fun s hs => by
    rw [← hq, List.mem_filter] at hs
    exact ⟨l1 s hs.1, by simpa using hs.2⟩
  have q2 := all_neg fun s hs => (q1 s hs).2
  have p2 := sW_le (w := w) fun s hs => hw s (p1 s hs).1
  have len : a ≤ p.length := by
    by_cases z : a ≤ p.length
    · exact z
    · exfalso
      have w0 : 0 ≤ w := by have := hw _ hl; simp at this; omega
      have : w * (p.length : Int) ≤ w * a := Int.mul_le_mul_of_nonneg_left (by omega) w0
      rw [Int.mul_comm w a] at this
      omega
  obtain ⟨m1, m, m2, rfl, mne, d⟩ := segment ha len
  have mp : ∀ s, s ∈ m → s ∈ st ∧ 0 < s.1 := fun s hs => p1 s (List.mem_append_right _ (List.mem_append_left _ hs))
  have m0 := sW_pos mne fun s hs => (mp s hs).2
  have mc := sC_pos fun s hs => h0 s (mp s hs).1
  obtain ⟨k, hk⟩ := d
  have k0 : 0 < k := by
    rw [hk] at m0
    exact Int.pos_of_mul_pos_right m0 (by omega)
  obtain ⟨j, hj⟩ := Int.eq_ofNat_of_zero_le (show 0 ≤ k - 1 by omega)
  obtain ⟨r1, r2⟩ := sW_rep a 0 j
  have wy : Way st n (c - sC m) := by
    refine ⟨q ++ (m1 ++ (m2 ++ List.replicate j ((a : Int), 0))), fun s hs => ?_, ?_, ?_⟩
    · rcases List.mem_append.mp hs with z | z
      · exact (q1 s z).1
      · rcases List.mem_append.mp z with z | z
        · exact (p1 s (List.mem_append_left _ z)).1
        · rcases List.mem_append.mp z with z | z
          · exact (p1 s (List.mem_append_right _ (List.mem_append_right _ z))).1
          · rw [List.eq_of_mem_replicate z]; exact hl
    · simp only [sW_app] at f1 ⊢
      rw [r1, ← hj, Int.sub_mul, Int.one_mul, Int.mul_comm k, ← hk]
      omega
    · simp only [sC_app] at f2 ⊢
      rw [r2]
      omega
  have := h.2 _ wy
  omega
theorem period_n {st : List Mv} {a : Nat} {w n r : Int} (ha : 0 < a) (h0 : ∀ s, s ∈ st → 0 ≤ s.2) (hw : ∀ s, s ∈ st → s.1 ≤ w) (hl : ((a : Int), 0) ∈ st) (hn : a * w ≤ n) (h : Best st n r) : ∀ k : Nat, Best st (n + k * a) r
  | 0 => by simpa using h
  | k + 1 => by
    have ih := period_n ha h0 hw hl hn h k
    have := period ha h0 hw hl (by have : (0 : Int) ≤ k * a := Int.mul_nonneg (by omega) (by omega); omega) ih
    have e : n + k * a + a = n + ((k + 1 : Nat) : Int) * a := by rw [Int.natCast_add, Int.add_mul]; simp; omega
    rw [← e]; exact this
end CT

/-! P2: least costs by settling the least debt first. -/
namespace CT
/-- what is settled, what is owed (a cost, a place); places from 0 to size, the start at w -/
structure Good (st : List Mv) (size w : Int) (fd : Int → Option Int) (ow : Int → Int → Prop) : Prop where
  real : ∀ p c, fd p = some c → Way st (p - w) c
  owed : ∀ k q, ow k q → Way st (q - w) k
  ord : ∀ p c, fd p = some c → ∀ k q, ow k q → c ≤ k
  clo : ∀ p c, fd p = some c → ∀ s, s ∈ st → 0 ≤ p + s.1 → p + s.1 < size → (∃ c2, fd (p + s.1) = some c2 ∧ c2 ≤ c + s.2) ∨ ∃ k, ow k (p + s.1) ∧ k ≤ c + s.2
  beg : (∃ c, fd w = some c ∧ c ≤ 0) ∨ ∃ k, ow k w ∧ k ≤ 0
theorem Good.start (st : List Mv) (size w : Int) : Good st size w (fun _ => none) (fun k q => k = 0 ∧ q = w) where
  real := fun _ _ h => nomatch h
  owed := fun k q h => by rw [h.1, h.2, Int.sub_self]; exact Way.nil st
  ord := fun _ _ h => nomatch h
  clo := fun _ _ h => nomatch h
  beg := .inr ⟨0, ⟨rfl, rfl⟩, Int.le_refl _⟩
/-- debts that are settled may go -/
theorem Good.sub {st : List Mv} {size w : Int} {fd : Int → Option Int} {ow ow' : Int → Int → Prop} (g : Good st size w fd ow) (h1 : ∀ k q, ow' k q → ow k q) (h2 : ∀ k q, ow k q → ow' k q ∨ ∃ c, fd q = some c) : Good st size w fd ow' where
  real := g.real
  owed := fun k q h => g.owed k q (h1 k q h)
  ord := fun p c hp k q h => g.ord p c hp k q (h1 k q h)
  clo := fun p c hp s hs a b => by
    rcases g.clo p c hp s hs a b with z | ⟨k, z1, z2⟩
    · exact .inl z
    · rcases h2 k _ z1 with y | ⟨c2, y⟩
      · exact .inr ⟨k, y, z2⟩
      · exact .inl ⟨c2, y, Int.le_trans (g.ord _ _ y _ _ z1) z2⟩
  beg := by
    rcases g.beg with z | ⟨k, z1, z2⟩
    · exact .inl z
    · rcases h2 k _ z1 with y | ⟨c2, y⟩
      · exact .inr ⟨k, y, z2⟩
      · exact .inl ⟨c2, y, Int.le_trans (g.ord _ _ y _ _ z1) z2⟩
/-- the least debt is settled -/
theorem Good.settle {st : List Mv} {size w : Int} {fd : Int → Option Int} {ow : Int → Int → Prop} (g : Good st size w fd ow) (h0 : ∀ s, s ∈ st → 0 ≤ s.2) {k q : Int} (ho : ow k q) (hm : ∀ k' q', ow k' q' → k ≤ k') (hn : fd q = none) :
    Good st size w (fun p => if p = q then some k else fd p) (fun k' q' => ow k' q' ∨ ∃ s, s ∈ st ∧ k' = k + s.2 ∧ q' = q + s.1 ∧ 0 ≤ q' ∧ q' < size) where
  real := fun p c h => by
    by_cases z : p = q
    · rw [if_pos z] at h
      cases h
      rw [z]
      exact g.owed _ _ ho
    · rw [if_neg z] at h
      exact g.real p c h
  owed := fun k' q' h => by
    rcases h with h | ⟨s, hs, rfl, rfl, _⟩
    · exact g.owed _ _ h
    · have := (g.owed _ _ ho).step hs
      have e : q - w + s.1 = q + s.1 - w := by omega
      rwa [e] at this
  ord := fun p c h k' q' ho' => by
    have ck : c ≤ k := by
      by_cases z : p = q
      · rw [if_pos z] at h
        cases h
        exact Int.le_refl _
      · rw [if_neg z] at h
        exact g.ord p c h _ _ ho
    rcases ho' with h' | ⟨s, hs, rfl, rfl, _⟩
    · exact Int.le_trans ck (hm _ _ h')
    · have := h0 s hs
      omega
  clo := fun p c h s hs a b => by
    by_cases z : p = q
    · rw [if_pos z] at h
      cases h
      subst z
      exact .inr ⟨k + s.2, .inr ⟨s, hs, rfl, rfl, a, b⟩, Int.le_refl _⟩
    · rw [if_neg z] at h
      rcases g.clo p c h s hs a b with ⟨c2, y1, y2⟩ | ⟨k', y1, y2⟩
      · refine .inl ⟨c2, ?_, y2⟩
        rw [if_neg]
        · exact y1
        · intro e
          rw [e, hn] at y1
          cases y1
      · exact .inr ⟨k', .inl y1, y2⟩
  beg := by
    rcases g.beg with ⟨c, y1, y2⟩ | ⟨k', y1, y2⟩
    · refine .inl ⟨c, ?_, y2⟩
      rw [if_neg]
      · exact y1
      · intro e
        rw [e, hn] at y1
        cases y1
    · exact .inr ⟨k', .inl y1, y2⟩
/-- nothing owed: all that can be come to is settled -/
theorem Good.full {st : List Mv} {size w : Int} {fd : Int → Option Int} {ow : Int → Int → Prop} (g : Good st size w fd ow) (hno : ∀ k q, ¬ ow k q) (h0 : ∀ s, s ∈ st → 0 ≤ s.2) {a b : Int} (ha : ((1 : Int), a) ∈ st) (hb : ((-1 : Int), b) ∈ st) (hw : 0 ≤ w) (hs : w < size) :
    ∀ p, 0 ≤ p → p < size → ∃ c, fd p = some c := by
  have up : ∀ n : Nat, w + n < size → ∃ c, fd (w + n) = some c := by
    intro n
    induction n with
    | zero =>
      intro _
      rcases g.beg with ⟨c, h, _⟩ | ⟨k, h, _⟩
      · exact ⟨c, by simpa using h⟩
      · exact absurd h (hno _ _)
    | succ n ih =>
      intro h
      obtain ⟨c, hc⟩ := ih (by omega)
      rcases g.clo _ c hc _ ha (by omega) (by show w + n + 1 < size; omega) with ⟨c2, z, _⟩ | ⟨k, z, _⟩
      · exact ⟨c2, by rw [← z]; congr 1; show w + ((n + 1 : Nat) : Int) = w + n + 1; omega⟩
      · exact absurd z (hno _ _)
  have dn : ∀ n : Nat, 0 ≤ w - n → ∃ c, fd (w - n) = some c := by
    intro n
    induction n with
    | zero =>
      intro _
      obtain ⟨c, h⟩ := up 0 (by simpa using hs)
      exact ⟨c, by simpa using h⟩
    | succ n ih =>
      intro h
      obtain ⟨c, hc⟩ := ih (by omega)
      rcases g.clo _ c hc _ hb (by show 0 ≤ w - n + -1; omega) (by show w - n + -1 < size; omega) with ⟨c2, z, _⟩ | ⟨k, z, _⟩
      · exact ⟨c2, by rw [← z]; congr 1; show w - ((n + 1 : Nat) : Int) = w - n + -1; omega⟩
      · exact absurd z (hno _ _)
  intro p p0 p1
  by_cases c : w ≤ p
  · obtain ⟨n, hn⟩ := Int.eq_ofNat_of_zero_le (show 0 ≤ p - w by omega)
    have e : p = w + n := by omega
    rw [e]
    exact up n (by omega)
  · obtain ⟨n, hn⟩ := Int.eq_ofNat_of_zero_le (show 0 ≤ w - p by omega)
    have e : p = w - n := by omega
    rw [e]
    exact dn n (by omega)
theorem Good.best {st : List Mv} {size w mx : Int} {fd : Int → Option Int} {ow : Int → Int → Prop} (g : Good st size w fd ow) (hno : ∀ k q, ¬ ow k q) (h0 : ∀ s, s ∈ st → 0 ≤ s.2) {a b : Int} (ha : ((1 : Int), a) ∈ st) (hb : ((-1 : Int), b) ∈ st) (hw : 1 ≤ w)
    (hs : ∀ s, s ∈ st → -w ≤ s.1 ∧ s.1 ≤ w) {n : Int} (n0 : 0 ≤ n) (n1 : n + 2 * w < size) : ∃ c, fd (w + n) = some c ∧ Best st n c := by
  have full := g.full hno h0 ha hb (by omega) (by omega)
  have key := table_best (st := st) (w := w) (lo := -w) (hi := size - w - 1) (n := n) (f := fun x => (fd (w + x)).getD 0) hs hw (fun x s hm a1 a2 a3 a4 => by
    obtain ⟨c, hc⟩ := full (w + x) (by omega) (by omega)
    rcases g.clo _ c hc s hm (by omega) (by omega) with ⟨c2, z1, z2⟩ | ⟨k, z, _⟩
    · show (fd (w + (x + s.1))).getD 0 ≤ (fd (w + x)).getD 0 + s.2
      rw [hc, ← Int.add_assoc, z1]
      exact z2
    · exact absurd z (hno _ _)) (by
      rcases g.beg with ⟨c, h, h'⟩ | ⟨k, h, _⟩
      · show (fd (w + 0)).getD 0 ≤ 0
        rw [Int.add_zero, h]; exact h'
      · exact absurd h (hno _ _)) (.inl ⟨n0, by omega, by omega⟩) (by
      obtain ⟨c, hc⟩ := full (w + n) (by omega) (by omega)
      have := g.real _ _ hc
      show Way st n ((fd (w + n)).getD 0)
      rw [hc]
      have e : w + n - w = n := by omega
      rwa [e] at this)
  obtain ⟨c, hc⟩ := full (w + n) (by omega) (by omega)
  refine ⟨c, hc, ?_⟩
  have e : (fd (w + n)).getD 0 = c := by rw [hc]; rfl

  rwa [e] at key
end CT

/-! P3: the least costs of a book's steps as a function. No program in sight. -/
namespace LW
open CT
/-- a bound: width, least, most -/
structure Bd where
  w : Int
  l : Int
  m : Int
/-- of the other sign -/
def tb (b : Bd) : Bd := ⟨b.w, -b.m, -b.l⟩
/-- the steps of a book -/
def stB (bs : List Bd) : List Mv := bs.flatMap fun b => [(b.w, b.m), (-b.w, -b.l)]
theorem mem_stB {bs : List Bd} {s : Mv} : s ∈ stB bs ↔ ∃ b, b ∈ bs ∧ (s = (b.w, b.m) ∨ s = (-b.w, -b.l)) := by
  unfold stB
  rw [List.mem_flatMap]
  simp
structure Bk (bs : List Bd) : Prop where
  w0 : ∀ b, b ∈ bs → 0 < b.w
  no : ∀ a, a ∈ bs → ∀ b, b ∈ bs → a.l * b.w ≤ b.m * a.w
  hd : ∃ lo hi rs, bs = ⟨1, lo, hi⟩ :: rs
theorem frt {a b c d e f : Int} (hd : 0 < d) (hb : 0 ≤ b) (hf : 0 ≤ f) (h1 : a * d ≤ c * b) (h2 : c * f ≤ e * d) : a * f ≤ e * b := by
  have q1 : a * d * f ≤ c * b * f := Int.mul_le_mul_of_nonneg_right h1 hf
  have q2 : c * f * b ≤ e * d * b := Int.mul_le_mul_of_nonneg_right h2 hb
  have e1 : a * d * f = a * f * d := Int.mul_right_comm ..
  have e2 : c * b * f = c * f * b := Int.mul_right_comm ..
  have e3 : e * d * b = e * b * d := Int.mul_right_comm ..
  exact Int.le_of_mul_le_mul_right (by omega) hd
theorem min_ex : ∀ (bs : List Bd), bs ≠ [] → (∀ b, b ∈ bs → 0 < b.w) → ∃ U, U ∈ bs ∧ ∀ b, b ∈ bs → U.m * b.w ≤ b.m * U.w
  | [], h, _ => absurd rfl h
  | [a], _, _ => ⟨a, List.mem_cons_self .., fun b hb => by rw [List.mem_singleton.mp hb]; exact Int.le_refl _⟩
  | a :: c :: bs, _, h => by
    obtain ⟨U, h1, h2⟩ := min_ex (c :: bs) (fun z => nomatch z) fun b hb => h b (List.mem_cons_of_mem _ hb)
    have ha := h a (List.mem_cons_self ..)
    have hU := h U (List.mem_cons_of_mem _ h1)
    by_cases z : a.m * U.w ≤ U.m * a.w
    · refine ⟨a, List.mem_cons_self .., fun b hb => ?_⟩
      rcases List.mem_cons.mp hb with y | y
      · rw [y]; exact Int.le_refl _
      · have hb' := h b (List.mem_cons_of_mem _ y)
        exact frt hU (by omega) (by omega) z (h2 b y)
    · refine ⟨U, List.mem_cons_of_mem _ h1, fun b hb => ?_⟩
      rcases List.mem_cons.mp hb with y | y
      · rw [y]; omega
      · exact h2 b y
/-- a share between all -/
theorem Bk.share {bs : List Bd} (h : Bk bs) : ∃ U, U ∈ bs ∧ 0 < U.w ∧ ∀ b, b ∈ bs → b.l * U.w ≤ U.m * b.w ∧ U.m * b.w ≤ b.m * U.w := by
  obtain ⟨lo, hi, rs, e⟩ := h.hd
  obtain ⟨U, h1, h2⟩ := min_ex bs (by rw [e]; exact fun z => nomatch z) h.w0
  exact ⟨U, h1, h.w0 U h1, fun b hb => ⟨h.no b hb U h1, h2 b hb⟩⟩
theorem way_ge {st : List Mv} {u v n c : Int} (h : ∀ s, s ∈ st → v * s.1 ≤ u * s.2) (hw : Way st n c) : v * n ≤ u * c := by
  obtain ⟨l, l1, rfl, rfl⟩ := hw
  induction l with
  | nil => simp
  | cons s l ih =>
    have h1 := h s (l1 s (List.mem_cons_self ..))
    have h2 := ih fun t ht => l1 t (List.mem_cons_of_mem _ ht)
    rw [sW_cons, sC_cons, Int.mul_add, Int.mul_add]
    omega
theorem best_ex {st : List Mv} {u v n : Int} (hu : 0 < u) (h : ∀ s, s ∈ st → v * s.1 ≤ u * s.2) : ∀ (k : Nat) (c : Int), Way st n c → (u * c - v * n).toNat ≤ k → ∃ c, Best st n c
  | k, c, hw, hk => by
    by_cases z : ∀ c', Way st n c' → c ≤ c'
    · exact ⟨c, hw, z⟩
    · obtain ⟨c', hc⟩ := Classical.not_forall.mp z
      obtain ⟨h1, h2⟩ := Classical.not_imp.mp hc
      have g1 := way_ge h h1
      have lt : u * c' < u * c := Int.mul_lt_mul_of_pos_left (by omega) hu
      cases k with
      | zero => omega
      | succ k => exact best_ex hu h k c' h1 (by omega)
theorem way_hi {st : List Mv} {m : Int} (h : ((1 : Int), m) ∈ st) (k : Nat) : Way st k (k * m) := by
  obtain ⟨h1, h2⟩ := sW_rep 1 m k
  exact ⟨List.replicate k (1, m), fun s hs => by rw [(List.mem_replicate.mp hs).2]; exact h, by rw [h1]; omega, h2⟩
theorem way_lo {st : List Mv} {l : Int} (h : ((-1 : Int), l) ∈ st) (k : Nat) : Way st (-k) (k * l) := by
  obtain ⟨h1, h2⟩ := sW_rep (-1) l k
  exact ⟨List.replicate k (-1, l), fun s hs => by rw [(List.mem_replicate.mp hs).2]; exact h, by rw [h1]; omega, h2⟩
theorem Bk.steps {bs : List Bd} {lo hi : Int} {rs : List Bd} (e : bs = ⟨1, lo, hi⟩ :: rs) : ((1 : Int), hi) ∈ stB bs ∧ ((-1 : Int), -lo) ∈ stB bs := by
  subst e
  constructor <;> simp [stB]
theorem way_line {lo hi : Int} {rs : List Bd} (n : Int) : Way (stB (⟨1, lo, hi⟩ :: rs)) n (if 0 ≤ n then n * hi else n * lo) := by
  obtain ⟨h1, h2⟩ := Bk.steps (bs := ⟨1, lo, hi⟩ :: rs) rfl
  by_cases z : 0 ≤ n
  · obtain ⟨k, rfl⟩ := Int.eq_ofNat_of_zero_le z
    rw [if_pos z]
    exact way_hi h1 k
  · obtain ⟨k, hk⟩ := Int.eq_ofNat_of_zero_le (show 0 ≤ -n by omega)
    rw [if_neg z]
    have := way_lo h2 k
    have e1 : n = -(k : Int) := by omega
    subst e1
    rw [Int.neg_mul]
    rwa [Int.mul_neg] at this
theorem Bk.ex {bs : List Bd} (h : Bk bs) (n : Int) : ∃ c, Best (stB bs) n c := by
  obtain ⟨U, _, u0, hU⟩ := h.share
  obtain ⟨lo, hi, rs, e⟩ := h.hd
  subst e
  refine best_ex (u := U.w) (v := U.m) u0 (fun s hs => ?_) _ _ (way_line n) (Nat.le_refl _)
  obtain ⟨b, hb, rfl | rfl⟩ := mem_stB.mp hs
  · have := (hU b hb).2
    show U.m * b.w ≤ U.w * b.m
    rw [Int.mul_comm U.w]; exact this
  · have := (hU b hb).1
    show U.m * -b.w ≤ U.w * -b.l
    rw [Int.mul_neg, Int.mul_neg, Int.mul_comm U.w]; omega
open Classical in
/-- the most that sums can grow so many days on -/
noncomputable def gs (bs : List Bd) (n : Int) : Int := if h : ∃ c, Best (stB bs) n c then h.choose else 0
theorem gs_of {bs : List Bd} {n c : Int} (h : Best (stB bs) n c) : gs bs n = c := by
  have e : ∃ c, Best (stB bs) n c := ⟨c, h⟩
  unfold gs
  rw [dif_pos e]
  exact e.choose_spec.uniq h
theorem Bk.gs {bs : List Bd} (h : Bk bs) (n : Int) : Best (stB bs) n (gs bs n) := by
  obtain ⟨c, hc⟩ := h.ex n
  rw [gs_of hc]
  exact hc
theorem Way.trans {st : List Mv} {a b c d : Int} (h : Way st a c) (h' : Way st b d) : Way st (a + b) (c + d) := by
  obtain ⟨l, l1, rfl, rfl⟩ := h
  obtain ⟨m, m1, rfl, rfl⟩ := h'
  refine ⟨l ++ m, fun s hs => ?_, sW_app .., sC_app ..⟩
  rcases List.mem_append.mp hs with z | z
  · exact l1 s z
  · exact m1 s z
theorem Bk.add {bs : List Bd} (h : Bk bs) (a b : Int) : LW.gs bs (a + b) ≤ LW.gs bs a + LW.gs bs b := (h.gs (a + b)).2 _ (Way.trans (h.gs a).1 (h.gs b).1)
theorem Bk.way {bs : List Bd} (h : Bk bs) {n c : Int} (hw : Way (stB bs) n c) : LW.gs bs n ≤ c := (h.gs n).2 _ hw
theorem Bk.up {bs : List Bd} (h : Bk bs) {b : Bd} (hb : b ∈ bs) : LW.gs bs b.w ≤ b.m := h.way (by
  have := (Way.nil (stB bs)).step (mem_stB.mpr ⟨b, hb, .inl rfl⟩)
  simpa using this)
theorem Bk.dn {bs : List Bd} (h : Bk bs) {b : Bd} (hb : b ∈ bs) : LW.gs bs (-b.w) ≤ -b.l := h.way (by
  have := (Way.nil (stB bs)).step (mem_stB.mpr ⟨b, hb, .inr rfl⟩)
  simpa using this)
theorem Bk.stepsC {bs : List Bd} (h : Bk bs) {U : Bd} (hU : ∀ b, b ∈ bs → b.l * U.w ≤ U.m * b.w ∧ U.m * b.w ≤ b.m * U.w) : ∀ s, s ∈ stB bs → U.m * s.1 ≤ U.w * s.2 := fun s hs => by
  obtain ⟨b, hb, rfl | rfl⟩ := mem_stB.mp hs
  · have := (hU b hb).2
    show U.m * b.w ≤ U.w * b.m
    rw [Int.mul_comm U.w]; exact this
  · have := (hU b hb).1
    show U.m * -b.w ≤ U.w * -b.l
    rw [Int.mul_neg, Int.mul_neg, Int.mul_comm U.w]; omega
theorem Bk.zero {bs : List Bd} (h : Bk bs) : LW.gs bs 0 = 0 := by
  obtain ⟨U, _, u0, hU⟩ := h.share
  have h1 := way_ge (h.stepsC hU) (h.gs 0).1
  have h2 := h.way (Way.nil _)
  rw [Int.mul_zero] at h1
  have := Int.nonneg_of_mul_nonneg_right h1 u0
  omega
theorem Bk.neg {bs : List Bd} (h : Bk bs) (n : Int) : -LW.gs bs (-n) ≤ LW.gs bs n := by
  have h1 := h.add n (-n)
  rw [Int.add_right_neg, h.zero] at h1
  omega
/-- books of the other sign -/
theorem way_map {st st' : List Mv} (h : ∀ s, s ∈ st → (-s.1, s.2) ∈ st') {n c : Int} (hw : Way st n c) : Way st' (-n) c := by
  obtain ⟨l, l1, rfl, rfl⟩ := hw
  refine ⟨l.map fun s => (-s.1, s.2), fun s hs => ?_, ?_, ?_⟩
  · obtain ⟨t, ht, rfl⟩ := List.mem_map.mp hs
    exact h t (l1 t ht)
  · clear l1
    induction l with
    | nil => rfl
    | cons s l ih => rw [List.map_cons, sW_cons, sW_cons, ih]; omega
  · clear l1
    induction l with
    | nil => rfl
    | cons s l ih => rw [List.map_cons, sC_cons, sC_cons, ih]
theorem tb_mem {bs : List Bd} {s : Mv} (h : s ∈ stB bs) : (-s.1, s.2) ∈ stB (bs.map tb) := by
  obtain ⟨b, hb, rfl | rfl⟩ := mem_stB.mp h
  · exact mem_stB.mpr ⟨tb b, List.mem_map_of_mem hb, .inr (by simp [tb])⟩
  · exact mem_stB.mpr ⟨tb b, List.mem_map_of_mem hb, .inl (by simp [tb])⟩
theorem tb_tb (bs : List Bd) : (bs.map tb).map tb = bs := by
  rw [List.map_map]
  conv => rhs; rw [← List.map_id bs]
  refine List.map_congr_left fun b _ => ?_
  simp [tb]
theorem best_tb {bs : List Bd} {n c : Int} (h : Best (stB bs) n c) : Best (stB (bs.map tb)) (-n) c :=
  ⟨way_map (fun _ => tb_mem) h.1, fun c' hc => h.2 _ (by
    have := way_map (st' := stB bs) (fun s hs => by have := tb_mem hs; rwa [tb_tb] at this) hc
    rwa [Int.neg_neg] at this)⟩
theorem gs_tb {bs : List Bd} (h : Bk bs) (n : Int) : gs (bs.map tb) n = gs bs (-n) := by
  have := best_tb (h.gs (-n))
  rw [Int.neg_neg] at this
  exact gs_of this
theorem Bk.tb {bs : List Bd} (h : Bk bs) : Bk (bs.map LW.tb) where
  w0 := fun b hb => by
    obtain ⟨a, ha, rfl⟩ := List.mem_map.mp hb
    exact h.w0 a ha
  no := fun a ha b hb => by
    obtain ⟨x, hx, rfl⟩ := List.mem_map.mp ha
    obtain ⟨y, hy, rfl⟩ := List.mem_map.mp hb
    have := h.no y hy x hx
    show -x.m * y.w ≤ -y.l * x.w
    rw [Int.neg_mul, Int.neg_mul]; omega
  hd := by
    obtain ⟨lo, hi, rs, e⟩ := h.hd
    exact ⟨-hi, -lo, rs.map LW.tb, by rw [e]; rfl⟩
end LW

/-! P5: shares, rows. No program in sight. -/
namespace LW
open CT
/-- a share v/u that all bounds let -/
def Shr (bs : List Bd) (u v : Int) : Prop := 0 < u ∧ ∀ b, b ∈ bs → b.l * u ≤ v * b.w ∧ v * b.w ≤ b.m * u
theorem Shr.steps {bs : List Bd} {u v : Int} (h : Shr bs u v) : ∀ s, s ∈ stB bs → v * s.1 ≤ u * s.2 := fun s hs => by
  obtain ⟨b, hb, rfl | rfl⟩ := mem_stB.mp hs
  · have := (h.2 b hb).2
    show v * b.w ≤ u * b.m
    rw [Int.mul_comm u]; exact this
  · have := (h.2 b hb).1
    show v * -b.w ≤ u * -b.l
    rw [Int.mul_neg, Int.mul_neg, Int.mul_comm u]; omega
theorem Shr.le {bs : List Bd} {u v : Int} (h : Shr bs u v) (B : Bk bs) (n : Int) : v * n ≤ u * gs bs n := way_ge h.steps (B.gs n).1
theorem way_reps {st : List Mv} {a c : Int} (h : (a, c) ∈ st) (k : Nat) : Way st (k * a) (k * c) := by
  obtain ⟨h1, h2⟩ := sW_rep a c k
  exact ⟨List.replicate k (a, c), fun s hs => by rw [(List.mem_replicate.mp hs).2]; exact h, h1, h2⟩
/-- whole widths of the strictest upper bound -/
theorem Bk.exact_up {bs : List Bd} (B : Bk bs) {U : Bd} (hU : U ∈ bs) (h : Shr bs U.w U.m) {k : Int} (k0 : 0 ≤ k) : LW.gs bs (k * U.w) = k * U.m := by
  obtain ⟨j, rfl⟩ := Int.eq_ofNat_of_zero_le k0
  have h1 := B.way (way_reps (st := stB bs) (a := U.w) (c := U.m) (mem_stB.mpr ⟨U, hU, .inl rfl⟩) j)
  have h2 := h.le B ((j : Int) * U.w)
  have h3 : U.m * ((j : Int) * U.w) = U.w * ((j : Int) * U.m) := by
    rw [← Int.mul_assoc, Int.mul_comm (U.m * j), Int.mul_comm U.m]
  rw [h3] at h2
  have h4 := Int.le_of_mul_le_mul_left h2 h.1
  omega
theorem Bk.exact_dn {bs : List Bd} (B : Bk bs) {L : Bd} (hL : L ∈ bs) (h : Shr bs L.w L.l) {k : Int} (k0 : 0 ≤ k) : LW.gs bs (-(k * L.w)) = -(k * L.l) := by
  obtain ⟨j, rfl⟩ := Int.eq_ofNat_of_zero_le k0
  have h1 := way_reps (st := stB bs) (a := -L.w) (c := -L.l) (mem_stB.mpr ⟨L, hL, .inr rfl⟩) j
  rw [Int.mul_neg, Int.mul_neg] at h1
  have h1 := B.way h1
  have h2 := h.le B (-((j : Int) * L.w))
  have h3 : L.l * (-((j : Int) * L.w)) = L.w * (-((j : Int) * L.l)) := by
    rw [Int.mul_neg, Int.mul_neg, ← Int.mul_assoc, Int.mul_comm (L.l * j), Int.mul_comm L.l]
  rw [h3] at h2
  have h4 := Int.le_of_mul_le_mul_left h2 h.1
  omega
/-- rows, told by their sums -/
def Row (bs : List Bd) (x : Int → Int) : Prop := ∀ b, b ∈ bs → ∀ i, b.l ≤ x (i + b.w) - x i ∧ x (i + b.w) - x i ≤ b.m
theorem Row.way {bs : List Bd} {x : Int → Int} (h : Row bs x) {n c : Int} (hw : Way (stB bs) n c) (i : Int) : x (i + n) - x i ≤ c := by
  obtain ⟨l, l1, rfl, rfl⟩ := hw
  induction l generalizing i with
  | nil => simp
  | cons s l ih =>
    have q := ih (i + s.1) (fun t ht => l1 t (List.mem_cons_of_mem _ ht))
    have st : x (i + s.1) - x i ≤ s.2 := by
      obtain ⟨b, hb, rfl | rfl⟩ := mem_stB.mp (l1 s (List.mem_cons_self ..))
      · exact (h b hb i).2
      · have := (h b hb (i + -b.w)).1
        rw [show i + -b.w + b.w = i by omega] at this
        show x (i + -b.w) - x i ≤ -b.l
        omega
    rw [sW_cons, sC_cons, ← Int.add_assoc]
    omega
theorem Row.le {bs : List Bd} {x : Int → Int} (h : Row bs x) (B : Bk bs) (i n : Int) : x (i + n) - x i ≤ gs bs n := h.way (B.gs n).1 i
theorem Row.ge {bs : List Bd} {x : Int → Int} (h : Row bs x) (B : Bk bs) (i n : Int) : -gs bs (-n) ≤ x (i + n) - x i := by
  have := h.le B (i + n) (-n)
  rw [show i + n + -n = i by omega] at this
  omega
/-- the row with the greatest sums -/
theorem Bk.row {bs : List Bd} (B : Bk bs) : Row bs (LW.gs bs) := fun b hb i => by
  have h1 := B.add i b.w
  have h2 := B.up hb
  have h3 := B.add (i + b.w) (-b.w)
  rw [show i + b.w + -b.w = i by omega] at h3
  have h4 := B.dn hb
  omega
theorem Bk.add' {bs : List Bd} (B : Bk bs) (a b : Int) : LW.gs bs a ≤ LW.gs bs (a + b) + LW.gs bs (-b) := by
  have := B.add (a + b) (-b)
  rwa [show a + b + -b = a by omega] at this
end LW

/-! P6: lists of days that fit; between which values the next one can be. No program in sight. -/
namespace LW
open CT
/-- the sum of the first days -/
def pre (is : List Int) (i : Nat) : Int := (is.take i).sum
theorem pre_zero (is : List Int) : pre is 0 = 0 := rfl
theorem pre_all (is : List Int) {i : Nat} (h : is.length ≤ i) : pre is i = is.sum := by unfold pre; rw [List.take_of_length_le h]
theorem pre_app (is js : List Int) {i : Nat} (h : i ≤ is.length) : pre (is ++ js) i = pre is i := by unfold pre; rw [List.take_append_of_le_length h]
theorem pre_snoc (is : List Int) (v : Int) : pre (is ++ [v]) (is.length + 1) = is.sum + v := by
  rw [pre_all _ (by simp)]
  simp
theorem pre_succ {is : List Int} {i : Nat} (h : i < is.length) : pre is (i + 1) = pre is i + is[i] := by
  unfold pre
  rw [List.take_succ_eq_append_getElem h, List.sum_append]
  simp
theorem pre_take (is : List Int) {i k : Nat} (h : i ≤ k) : pre (is.take k) i = pre is i := by
  unfold pre
  rw [List.take_take, Nat.min_eq_left h]
/-- all stretches lie within the least and the greatest sums -/
def Fits (bs : List Bd) (is : List Int) : Prop := ∀ i j : Nat, i ≤ is.length → j ≤ is.length → pre is j - pre is i ≤ gs bs (j - i)
/-- .. with one day more -/
def FitsN (bs : List Bd) (is : List Int) (v : Int) : Prop := ∀ i : Nat, i ≤ is.length → is.sum + v - pre is i ≤ gs bs (is.length + 1 - i) ∧ pre is i - (is.sum + v) ≤ gs bs (i - (is.length + 1))
theorem fits_nil {bs : List Bd} (B : Bk bs) : Fits bs [] := fun i j hi hj => by
  have h1 : i = 0 := by simpa using hi
  have h2 : j = 0 := by simpa using hj
  subst h1
  subst h2
  rw [Int.sub_self, Int.sub_self, B.zero]
  exact Int.le_refl _
theorem fits_snoc {bs : List Bd} (B : Bk bs) {is : List Int} {v : Int} : Fits bs (is ++ [v]) ↔ Fits bs is ∧ FitsN bs is v := by
  constructor
  · intro h
    refine ⟨fun i j hi hj => ?_, fun i hi => ?_⟩
    · have := h i j (by simp; omega) (by simp; omega)
      rwa [pre_app _ _ hi, pre_app _ _ hj] at this
    · have h1 := h i (is.length + 1) (by simp; omega) (by simp)
      have h2 := h (is.length + 1) i (by simp) (by simp; omega)
      rw [pre_app _ _ hi, pre_snoc] at h1 h2
      exact ⟨h1, h2⟩
  · rintro ⟨h1, h2⟩ i j hi hj
    simp at hi hj
    by_cases ci : i ≤ is.length
    · by_cases cj : j ≤ is.length
      · rw [pre_app _ _ ci, pre_app _ _ cj]
        exact h1 i j ci cj
      · have e : j = is.length + 1 := by omega
        subst e
        rw [pre_app _ _ ci, pre_snoc]
        exact (h2 i ci).1
    · have e : i = is.length + 1 := by omega
      subst e
      by_cases cj : j ≤ is.length
      · rw [pre_app _ _ cj, pre_snoc]
        exact (h2 j cj).2
      · have e : j = is.length + 1 := by omega
        subst e
        rw [Int.sub_self, Int.sub_self, B.zero]
        exact Int.le_refl _
theorem Fits.take {bs : List Bd} {is : List Int} (h : Fits bs is) (k : Nat) : Fits bs (is.take k) := fun i j hi hj => by
  rw [List.length_take] at hi hj
  rw [pre_take _ (by omega), pre_take _ (by omega)]
  exact h i j (by omega) (by omega)
/-- the sum of the last days -/
def lastS (is : List Int) (j : Nat) : Int := is.sum - pre is (is.length - j)
theorem lastS_zero (is : List Int) : lastS is 0 = 0 := by
  unfold lastS
  rw [pre_all _ (by omega)]
  omega
theorem lastS_succ {is : List Int} {j : Nat} (h : j < is.length) : lastS is (j + 1) = lastS is j + is[is.length - 1 - j] := by
  unfold lastS
  have e : is.length - j = (is.length - (j + 1)) + 1 := by omega
  rw [e, pre_succ (by omega)]
  have e2 : is.length - (j + 1) = is.length - 1 - j := by omega
  simp only [e2]
  omega
/-- the least and the greatest value of the next day by the last days, so many -/
noncomputable def nbL (bs : List Bd) (is : List Int) : Nat → Int
  | 0 => -gs bs (-1)
  | j + 1 => if -gs bs (-((j : Int) + 2)) - lastS is (j + 1) > nbL bs is j then -gs bs (-((j : Int) + 2)) - lastS is (j + 1) else nbL bs is j
noncomputable def nbH (bs : List Bd) (is : List Int) : Nat → Int
  | 0 => gs bs 1
  | j + 1 => if gs bs ((j : Int) + 2) - lastS is (j + 1) < nbH bs is j then gs bs ((j : Int) + 2) - lastS is (j + 1) else nbH bs is j
theorem nbL_le {bs : List Bd} {is : List Int} {v : Int} : ∀ {k : Nat}, nbL bs is k ≤ v ↔ ∀ j : Nat, j ≤ k → -gs bs (-((j : Int) + 1)) - lastS is j ≤ v
  | 0 => by
    unfold nbL
    constructor
    · intro h j hj
      have : j = 0 := by omega
      subst this
      rw [lastS_zero]
      simpa using h
    · intro h
      have := h 0 (Nat.le_refl _)
      rw [lastS_zero] at this
      simpa using this
  | k + 1 => by
    unfold nbL
    have ih := nbL_le (bs := bs) (is := is) (v := v) (k := k)
    have e : ((k + 1 : Nat) : Int) + 1 = (k : Int) + 2 := by omega
    constructor
    · intro h j hj
      by_cases z : j ≤ k
      · refine ih.mp ?_ j z
        split at h <;> omega
      · have : j = k + 1 := by omega
        subst this
        rw [e]
        split at h <;> omega
    · intro h
      have h1 := ih.mpr fun j hj => h j (by omega)
      have h2 := h (k + 1) (Nat.le_refl _)
      rw [e] at h2
      split <;> omega
theorem nbH_ge {bs : List Bd} {is : List Int} {v : Int} : ∀ {k : Nat}, v ≤ nbH bs is k ↔ ∀ j : Nat, j ≤ k → v ≤ gs bs ((j : Int) + 1) - lastS is j
  | 0 => by
    unfold nbH
    constructor
    · intro h j hj
      have : j = 0 := by omega
      subst this
      rw [lastS_zero]
      simpa using h
    · intro h
      have := h 0 (Nat.le_refl _)
      rw [lastS_zero] at this
      simpa using this
  | k + 1 => by
    unfold nbH
    have ih := nbH_ge (bs := bs) (is := is) (v := v) (k := k)
    have e : ((k + 1 : Nat) : Int) + 1 = (k : Int) + 2 := by omega
    constructor
    · intro h j hj
      by_cases z : j ≤ k
      · refine ih.mp ?_ j z
        split at h <;> omega
      · have : j = k + 1 := by omega
        subst this
        rw [e]
        split at h <;> omega
    · intro h
      have h1 := ih.mpr fun j hj => h j (by omega)
      have h2 := h (k + 1) (Nat.le_refl _)
      rw [e] at h2
      split <;> omega
theorem fitsN_iff {bs : List Bd} {is : List Int} {v : Int} : FitsN bs is v ↔ nbL bs is is.length ≤ v ∧ v ≤ nbH bs is is.length := by
  rw [nbL_le, nbH_ge]
  constructor
  · intro h
    refine ⟨fun j hj => ?_, fun j hj => ?_⟩
    · have := (h (is.length - j) (by omega)).2
      rw [show ((is.length - j : Nat) : Int) - (is.length + 1) = -((j : Int) + 1) by omega] at this
      unfold lastS
      omega
    · have := (h (is.length - j) (by omega)).1
      rw [show (is.length : Int) + 1 - ((is.length - j : Nat) : Int) = (j : Int) + 1 by omega] at this
      unfold lastS
      omega
  · rintro ⟨h1, h2⟩ i hi
    have a := h1 (is.length - i) (by omega)
    have b := h2 (is.length - i) (by omega)
    unfold lastS at a b
    rw [show is.length - (is.length - i) = i by omega] at a b
    rw [show -(((is.length - i : Nat) : Int) + 1) = (i : Int) - (is.length + 1) by omega] at a
    rw [show ((is.length - i : Nat) : Int) + 1 = (is.length : Int) + 1 - i by omega] at b
    omega
/-- there is always a next value -/
theorem Fits.next {bs : List Bd} (B : Bk bs) {is : List Int} (h : Fits bs is) : nbL bs is is.length ≤ nbH bs is is.length := by
  rw [nbL_le]
  intro j hj
  rw [nbH_ge]
  intro k hk
  unfold lastS
  have q := h (is.length - k) (is.length - j) (by omega) (by omega)
  have a := B.add ((k : Int) + 1) (-((j : Int) + 1))
  rw [show (k : Int) + 1 + -((j : Int) + 1) = ((is.length - j : Nat) : Int) - ((is.length - k : Nat) : Int) by omega] at a
  omega
/-- a row with these days -/
theorem Fits.of_row {bs : List Bd} (B : Bk bs) {x : Int → Int} (hx : Row bs x) {is : List Int} {o : Int} (h : ∀ i : Nat, i ≤ is.length → pre is i = x (o + i) - x o) : Fits bs is := fun i j hi hj => by
  rw [h i hi, h j hj]
  have := hx.le B (o + i) (j - i)
  rw [show o + (i : Int) + (j - i) = o + j by omega] at this
  omega
end LW

/-! P7: even rows. No program in sight. -/
namespace LW
open CT
/-- the sums of an even row with the share v/u -/
def evS (u v ph n : Int) : Int := (n * v + ph) / u
theorem ev_row {bs : List Bd} {u v : Int} (h : Shr bs u v) (ph : Int) : Row bs (evS u v ph) := fun b hb i => by
  obtain ⟨h1, h2⟩ := h.2 b hb
  have u0 := h.1
  have e : (i + b.w) * v + ph = (i * v + ph) + v * b.w := by rw [Int.add_mul, Int.mul_comm b.w]; omega
  unfold evS
  rw [e]
  have a1 : (i * v + ph + b.l * u) / u = (i * v + ph) / u + b.l := Int.add_mul_ediv_right _ _ (by omega)
  have a2 : (i * v + ph + b.m * u) / u = (i * v + ph) / u + b.m := Int.add_mul_ediv_right _ _ (by omega)
  have b1 : (i * v + ph + b.l * u) / u ≤ (i * v + ph + v * b.w) / u := Int.ediv_le_ediv u0 (by omega)
  have b2 : (i * v + ph + v * b.w) / u ≤ (i * v + ph + b.m * u) / u := Int.ediv_le_ediv u0 (by omega)
  omega
/-- the days of an even row -/
theorem ev_pre {u v ph : Int} : ∀ (n : Nat), ((List.range n).map fun i : Nat => evS u v ph ((i : Int) + 1) - evS u v ph i).sum = evS u v ph n - evS u v ph 0
  | 0 => by simp
  | n + 1 => by
    rw [List.range_succ, List.map_append, List.sum_append, ev_pre n]
    simp
    omega
theorem ev_fits {bs : List Bd} (B : Bk bs) {u v : Int} (h : Shr bs u v) (ph : Int) (n : Nat) : Fits bs ((List.range n).map fun i : Nat => evS u v ph ((i : Int) + 1) - evS u v ph i) := by
  refine Fits.of_row B (ev_row h ph) (o := 0) fun i hi => ?_
  rw [List.length_map, List.length_range] at hi
  unfold pre
  rw [← List.map_take, List.take_range, Nat.min_eq_left hi, ev_pre, Int.zero_add]
/-- shares between both -/
theorem Shr.mix {bs : List Bd} {u v u' v' a b : Int} (h : Shr bs u v) (h' : Shr bs u' v') (ha : 0 ≤ a) (hb : 0 ≤ b) (hab : 0 < a + b) : Shr bs (a * u + b * u') (a * v + b * v') := by
  have u0 := h.1
  have u0' := h'.1
  refine ⟨?_, fun c hc => ?_⟩
  · have h1 : 0 ≤ a * u := Int.mul_nonneg ha (by omega)
    have h2 : 0 ≤ b * u' := Int.mul_nonneg hb (by omega)
    by_cases z : 0 < a
    · have := Int.mul_pos z u0
      omega
    · have := Int.mul_pos (show 0 < b by omega) u0'
      omega
  · obtain ⟨p1, p2⟩ := h.2 c hc
    obtain ⟨q1, q2⟩ := h'.2 c hc
    have r1 := Int.mul_le_mul_of_nonneg_left p1 ha
    have r2 := Int.mul_le_mul_of_nonneg_left p2 ha
    have s1 := Int.mul_le_mul_of_nonneg_left q1 hb
    have s2 := Int.mul_le_mul_of_nonneg_left q2 hb
    rw [Int.mul_add, Int.add_mul, Int.mul_add]
    have e1 : c.l * (a * u) = a * (c.l * u) := Int.mul_left_comm ..
    have e2 : c.l * (b * u') = b * (c.l * u') := Int.mul_left_comm ..
    have e3 : a * v * c.w = a * (v * c.w) := Int.mul_assoc ..
    have e4 : b * v' * c.w = b * (v' * c.w) := Int.mul_assoc ..
    have e5 : c.m * (a * u) = a * (c.m * u) := Int.mul_left_comm ..
    have e6 : c.m * (b * u') = b * (c.m * u') := Int.mul_left_comm ..
    omega
end LW

/-! P8: books scaled. No program in sight. -/
namespace LW
open CT
def scB (f s : Int) (b : Bd) : Bd := ⟨b.w, f * b.l + b.w * s, f * b.m + b.w * s⟩
theorem stB_sc (f s : Int) : ∀ bs : List Bd, stB (bs.map (scB f s)) = red f (-s) (stB bs)
  | [] => rfl
  | b :: bs => by
    have ih := stB_sc f s bs
    unfold stB red at ih ⊢
    rw [List.map_cons, List.flatMap_cons, List.flatMap_cons, List.map_append, ih]
    congr 1
    have e1 : b.m * f - -s * b.w = f * b.m + b.w * s := by rw [Int.mul_comm b.m, Int.neg_mul, Int.mul_comm s]; omega
    have e2 : -b.l * f - -s * -b.w = -(f * b.l + b.w * s) := by rw [Int.neg_mul, Int.mul_comm b.l, Int.neg_mul_neg, Int.mul_comm s]; omega
    simp [scB, e1, e2]
theorem Bk.sc {bs : List Bd} (B : Bk bs) {f : Int} (hf : 0 < f) (s : Int) : Bk (bs.map (scB f s)) where
  w0 := fun b hb => by
    obtain ⟨a, ha, rfl⟩ := List.mem_map.mp hb
    exact B.w0 a ha
  no := fun a ha b hb => by
    obtain ⟨x, hx, rfl⟩ := List.mem_map.mp ha
    obtain ⟨y, hy, rfl⟩ := List.mem_map.mp hb
    have := Int.mul_le_mul_of_nonneg_left (B.no x hx y hy) (show 0 ≤ f by omega)
    show (f * x.l + x.w * s) * y.w ≤ (f * y.m + y.w * s) * x.w
    rw [Int.add_mul, Int.add_mul, Int.mul_assoc, Int.mul_assoc f, show x.w * s * y.w = y.w * s * x.w by ac_rfl]
    omega
  hd := by
    obtain ⟨lo, hi, rs, e⟩ := B.hd
    exact ⟨f * lo + s, f * hi + s, rs.map (scB f s), by rw [e]; simp [scB]⟩
theorem gs_sc {bs : List Bd} (B : Bk bs) {f : Int} (hf : 0 < f) (s n : Int) : gs (bs.map (scB f s)) n = f * gs bs n + n * s := by
  have h := (B.gs n).red (a := f) (b := -s) hf
  rw [← stB_sc] at h
  rw [gs_of h, Int.neg_mul, Int.mul_comm s]
  omega
end LW

/-! P9: lists of days that keep all bounds within; blocks that go on both ways. -/
namespace LW
open PySem CT
theorem pre_drop (is : List Int) (i : Nat) : is.sum - pre is i = (is.drop i).sum := by
  have : is.sum = (is.take i).sum + (is.drop i).sum := by rw [← List.sum_append, List.take_append_drop]
  unfold pre
  omega
theorem pre_rev (is : List Int) {i : Nat} (h : i ≤ is.length) : pre is.reverse i = is.sum - pre is (is.length - i) := by
  rw [pre_drop]
  unfold pre
  rw [List.take_reverse, List.sum_reverse]
theorem pre_off (a x : List Int) (i : Nat) : pre (a ++ x) (a.length + i) = a.sum + pre x i := by
  unfold pre
  rw [List.take_append, List.take_of_length_le (by omega), List.sum_append]
  rw [show a.length + i - a.length = i by omega]
theorem Fits.rev {bs : List Bd} {is : List Int} (h : Fits bs is) : Fits bs is.reverse := fun i j hi hj => by
  rw [List.length_reverse] at hi hj
  rw [pre_rev is hi, pre_rev is hj]
  have := h (is.length - j) (is.length - i) (by omega) (by omega)
  rw [show ((is.length - i : Nat) : Int) - ((is.length - j : Nat) : Int) = (j : Int) - i by omega] at this
  omega
theorem Fits.snoc {bs : List Bd} (B : Bk bs) {is : List Int} (h : Fits bs is) : ∃ v, Fits bs (is ++ [v]) :=
  ⟨_, (fits_snoc B).mpr ⟨h, fitsN_iff.mpr ⟨Int.le_refl _, h.next B⟩⟩⟩
theorem Fits.cons {bs : List Bd} (B : Bk bs) {is : List Int} (h : Fits bs is) : ∃ v, Fits bs (v :: is) := by
  obtain ⟨v, hv⟩ := h.rev.snoc B
  refine ⟨v, ?_⟩
  have := hv.rev
  rwa [List.reverse_append, List.reverse_reverse] at this
theorem Fits.drop {bs : List Bd} {is : List Int} (h : Fits bs is) (k : Nat) : Fits bs (is.drop k) := by
  have := (h.rev.take (is.length - k)).rev
  rw [List.take_reverse, List.reverse_reverse, show is.length - (is.length - k) = min is.length k by omega] at this
  by_cases hk : k ≤ is.length
  · rwa [Nat.min_eq_right hk] at this
  · rw [Nat.min_eq_left (by omega), List.drop_length] at this
    rwa [List.drop_eq_nil_of_le (by omega)]
/-- all bounds hold within -/
def Let (bs : List Bd) (is : List Int) : Prop := ∀ b, b ∈ bs → ∀ s : Nat, s + b.w.toNat ≤ is.length → b.l ≤ pre is (s + b.w.toNat) - pre is s ∧ pre is (s + b.w.toNat) - pre is s ≤ b.m
theorem Fits.let {bs : List Bd} (B : Bk bs) {is : List Int} (h : Fits bs is) : Let bs is := fun b hb s hs => by
  have w0 := B.w0 b hb
  have h1 := h s (s + b.w.toNat) (by omega) hs
  have h2 := h (s + b.w.toNat) s hs (by omega)
  have u := B.up hb
  have d := B.dn hb
  rw [show ((s + b.w.toNat : Nat) : Int) - (s : Nat) = b.w by omega] at h1
  rw [show ((s : Nat) : Int) - ((s + b.w.toNat : Nat) : Int) = -b.w by omega] at h2
  omega
theorem Let.rev {bs : List Bd} {is : List Int} (h : Let bs is) : Let bs is.reverse := fun b hb s hs => by
  rw [List.length_reverse] at hs
  rw [pre_rev is hs, pre_rev is (by omega)]
  have := h b hb (is.length - (s + b.w.toNat)) (by omega)
  rw [show is.length - (s + b.w.toNat) + b.w.toNat = is.length - s by omega] at this
  omega
theorem Let.pref {bs : List Bd} {a c : List Int} (h : Let bs (a ++ c)) : Let bs a := fun b hb s hs => by
  have := h b hb s (by rw [List.length_append]; omega)
  rwa [pre_app _ _ hs, pre_app _ _ (by omega)] at this
theorem Let.suff {bs : List Bd} {a c : List Int} (h : Let bs (a ++ c)) : Let bs c := by
  have := h.rev
  rw [List.reverse_append] at this
  have := this.pref.rev
  rwa [List.reverse_reverse] at this
theorem let_join {bs : List Bd} {a x : List Int} {v : Int} (h1 : Let bs (a ++ x)) (h2 : Let bs (x ++ [v])) (hw : ∀ b, b ∈ bs → b.w.toNat ≤ x.length + 1) : Let bs (a ++ x ++ [v]) := fun b hb s hs => by
  have w := hw b hb
  rw [List.length_append, List.length_append, List.length_singleton] at hs
  by_cases c : s + b.w.toNat ≤ a.length + x.length
  · rw [pre_app (a ++ x) [v] (by rw [List.length_append]; omega), pre_app (a ++ x) [v] (by rw [List.length_append]; omega)]
    exact h1 b hb s (by rw [List.length_append]; omega)
  · rw [List.append_assoc]
    have e1 := pre_off a (x ++ [v]) (s - a.length + b.w.toNat)
    have e2 := pre_off a (x ++ [v]) (s - a.length)
    rw [show a.length + (s - a.length + b.w.toNat) = s + b.w.toNat by omega] at e1
    rw [show a.length + (s - a.length) = s by omega] at e2
    have := h2 b hb (s - a.length) (by rw [List.length_append, List.length_singleton]; omega)
    omega
/-- blocks of so many days, each of which goes on both ways to another one -/
structure Clos (bs : List Bd) (S : List (List Int)) (many : Nat) : Prop where
  len : ∀ x, x ∈ S → x.length = many
  nx : ∀ x, x ∈ S → ∃ v, x.drop 1 ++ [v] ∈ S ∧ Let bs (x ++ [v])
  pv : ∀ x, x ∈ S → ∃ v, v :: x.dropLast ∈ S ∧ Let bs (v :: x)
theorem Clos.rev {bs : List Bd} {S : List (List Int)} {many : Nat} (h : Clos bs S many) : Clos bs (S.map List.reverse) many where
  len := fun x hx => by
    obtain ⟨y, hy, rfl⟩ := List.mem_map.mp hx
    rw [List.length_reverse]
    exact h.len y hy
  nx := fun x hx => by
    obtain ⟨y, hy, rfl⟩ := List.mem_map.mp hx
    obtain ⟨v, h1, h2⟩ := h.pv y hy
    refine ⟨v, List.mem_map.mpr ⟨_, h1, ?_⟩, ?_⟩
    · rw [List.reverse_cons, List.drop_reverse, List.dropLast_eq_take]
    · have := h2.rev
      rwa [List.reverse_cons] at this
  pv := fun x hx => by
    obtain ⟨y, hy, rfl⟩ := List.mem_map.mp hx
    obtain ⟨v, h1, h2⟩ := h.nx y hy
    refine ⟨v, List.mem_map.mpr ⟨_, h1, ?_⟩, ?_⟩
    · rw [List.reverse_append, List.reverse_singleton, List.singleton_append, List.dropLast_reverse, List.drop_one]
    · have := h2.rev
      rwa [List.reverse_append, List.reverse_singleton, List.singleton_append] at this
theorem Clos.right {bs : List Bd} {S : List (List Int)} {many : Nat} (h : Clos bs S many) (hm : 0 < many) (hw : ∀ b, b ∈ bs → b.w.toNat ≤ many + 1) (N : Nat) : ∀ a x : List Int, x ∈ S → Let bs (a ++ x) → ∃ r : List Int, r.length = N ∧ Let bs (a ++ x ++ r) := by
  induction N with
  | zero => exact fun a x _ l => ⟨[], rfl, by rwa [List.append_nil]⟩
  | succ N ih =>
    intro a x hx l
    obtain ⟨v, h1, h2⟩ := h.nx x hx
    have hl := h.len x hx
    have l2 := let_join l h2 (by rw [hl]; exact hw)
    have e : a ++ x ++ [v] = (a ++ x.take 1) ++ (x.drop 1 ++ [v]) := by
      rw [List.append_assoc a (x.take 1), ← List.append_assoc (x.take 1), List.take_append_drop, List.append_assoc]
    rw [e] at l2
    obtain ⟨r, hr, l3⟩ := ih _ _ h1 l2
    refine ⟨v :: r, by rw [List.length_cons, hr], ?_⟩
    rw [← e] at l3
    rwa [List.append_assoc (a ++ x), List.singleton_append] at l3
theorem Clos.both {bs : List Bd} {S : List (List Int)} {many : Nat} (h : Clos bs S many) (hm : 0 < many) (hw : ∀ b, b ∈ bs → b.w.toNat ≤ many + 1) {x : List Int} (hx : x ∈ S) (N : Nat) : ∃ l r : List Int, l.length = N ∧ r.length = N ∧ Let bs (l ++ x ++ r) := by
  have lx : Let bs x := by
    obtain ⟨v, _, h2⟩ := h.nx x hx
    exact h2.pref
  obtain ⟨l, hl, h1⟩ := h.rev.right hm hw N [] x.reverse (List.mem_map.mpr ⟨x, hx, rfl⟩) (by simpa using lx.rev)
  have h2 := h1.rev
  rw [List.nil_append, List.reverse_append, List.reverse_reverse] at h2
  obtain ⟨r, hr, h3⟩ := h.right hm hw N l.reverse x hx h2
  exact ⟨l.reverse, r, by rw [List.length_reverse, hl], hr, h3⟩
/-- a part of a row -/
def RowIn (bs : List Bd) (x : Int → Int) (a e : Int) : Prop := ∀ b, b ∈ bs → ∀ i, a ≤ i → i + b.w ≤ e → b.l ≤ x (i + b.w) - x i ∧ x (i + b.w) - x i ≤ b.m
def sA (l : List Mv) : Int := (l.map fun s => (s.1.natAbs : Int)).sum
theorem sA_nonneg : ∀ l : List Mv, 0 ≤ sA l
  | [] => Int.le_refl _
  | s :: l => by
    have := sA_nonneg l
    unfold sA at this ⊢
    rw [List.map_cons, List.sum_cons]
    omega
theorem RowIn.way {bs : List Bd} {x : Int → Int} {a e : Int} (h : RowIn bs x a e) (w0 : ∀ b, b ∈ bs → 0 < b.w) : ∀ (l : List Mv) (i : Int), (∀ s, s ∈ l → s ∈ stB bs) → a + sA l ≤ i → i + sA l ≤ e → x (i + sW l) - x i ≤ sC l
  | [], i, _, _, _ => by simp [sW, sC]
  | s :: l, i, hs, h1, h2 => by
    have p := sA_nonneg l
    have es : sA (s :: l) = (s.1.natAbs : Int) + sA l := by unfold sA; rw [List.map_cons, List.sum_cons]
    have ew : sW (s :: l) = s.1 + sW l := by simp [sW]
    have ec : sC (s :: l) = s.2 + sC l := by simp [sC]
    have q := RowIn.way h w0 l (i + s.1) (fun t ht => hs t (List.mem_cons_of_mem _ ht)) (by omega) (by omega)
    have st : x (i + s.1) - x i ≤ s.2 := by
      obtain ⟨b, hb, rfl | rfl⟩ := mem_stB.mp (hs s (List.mem_cons_self ..))
      · have := w0 b hb
        simp only at es
        exact (h b hb i (by omega) (by omega)).2
      · have w := w0 b hb
        simp only at es
        have := (h b hb (i + -b.w) (by omega) (by omega)).1
        rw [show i + -b.w + b.w = i by omega] at this
        show x (i + -b.w) - x i ≤ -b.l
        omega
    rw [ew, ec, show i + (s.1 + sW l) = i + s.1 + sW l by omega]
    omega
theorem Let.row {bs : List Bd} {is : List Int} (h : Let bs is) (w0 : ∀ b, b ∈ bs → 0 < b.w) : RowIn bs (fun i => pre is i.toNat) 0 is.length := fun b hb i h1 h2 => by
  have w := w0 b hb
  have := h b hb i.toNat (by omega)
  rw [show i.toNat + b.w.toNat = (i + b.w).toNat by omega] at this
  exact this
theorem fits_of_let {bs : List Bd} (B : Bk bs) {x : List Int} (h : ∀ N : Nat, ∃ l r : List Int, l.length = N ∧ r.length = N ∧ Let bs (l ++ x ++ r)) : Fits bs x := fun i j hi hj => by
  obtain ⟨st, h1, h2, h3⟩ := (B.gs ((j : Int) - i)).1
  obtain ⟨l, r, hl, hr, hlet⟩ := h (sA st).toNat
  have p := sA_nonneg st
  have q := (hlet.row B.w0).way B.w0 st (l.length + i) h1 (by omega) (by
    rw [List.length_append, List.length_append]
    omega)
  rw [h2, h3] at q
  have e1 : ∀ k : Nat, k ≤ x.length → pre (l ++ x ++ r) (((l.length : Int) + k).toNat) = l.sum + pre x k := fun k hk => by
    rw [show ((l.length : Int) + k).toNat = l.length + k by omega, pre_app _ _ (by rw [List.length_append]; omega), pre_off]
  rw [show (l.length : Int) + i + ((j : Int) - i) = (l.length : Int) + j by omega] at q
  have q' : pre (l ++ x ++ r) (((l.length : Int) + j).toNat) - pre (l ++ x ++ r) (((l.length : Int) + i).toNat) ≤ gs bs ((j : Int) - i) := q
  rw [e1 _ hi, e1 _ hj] at q'
  omega
theorem let_times {bs : List Bd} {y : List Int} (h : Let bs y) {b : Bd} (hb : b ∈ bs) : ∀ k : Nat, k * b.w.toNat ≤ y.length → (k : Int) * b.l ≤ pre y (k * b.w.toNat) ∧ pre y (k * b.w.toNat) ≤ k * b.m
  | 0, _ => by simp [pre_zero]
  | k + 1, hk => by
    rw [Nat.add_mul, Nat.one_mul] at hk ⊢
    have a := let_times h hb k (by omega)
    have c := h b hb (k * b.w.toNat) hk
    rw [show ((k + 1 : Nat) : Int) = (k : Int) + 1 by omega, Int.add_mul, Int.add_mul, Int.one_mul, Int.one_mul]
    omega
/-- long lists: no two bounds contradict -/
theorem no_confl {bs : List Bd} (w0 : ∀ b, b ∈ bs → 0 < b.w) (h : ∀ N : Nat, ∃ y : List Int, N ≤ y.length ∧ Let bs y) {b c : Bd} (hb : b ∈ bs) (hc : c ∈ bs) : b.l * c.w ≤ c.m * b.w := by
  obtain ⟨y, hy, hl⟩ := h (b.w.toNat * c.w.toNat)
  have w1 := w0 b hb
  have w2 := w0 c hc
  have a := (let_times hl hb c.w.toNat (by rw [Nat.mul_comm]; exact hy)).1
  have d := (let_times hl hc b.w.toNat hy).2
  rw [Nat.mul_comm] at a
  rw [show ((c.w.toNat : Nat) : Int) = c.w by omega] at a
  rw [show ((b.w.toNat : Nat) : Int) = b.w by omega] at d
  rw [Int.mul_comm b.l, Int.mul_comm c.m]
  omega
theorem Clos.fits {bs : List Bd} (B : Bk bs) {S : List (List Int)} {many : Nat} (h : Clos bs S many) (hm : 0 < many) (hw : ∀ b, b ∈ bs → b.w.toNat ≤ many + 1) {x : List Int} (hx : x ∈ S) : Fits bs x :=
  fits_of_let B fun N => h.both hm hw hx N
/-- blocks that fit go on -/
theorem fits_clos {bs : List Bd} (B : Bk bs) {x : List Int} (h : Fits bs x) (hx : x ≠ []) : (∃ v, Fits bs (x.drop 1 ++ [v]) ∧ Let bs (x ++ [v])) ∧ ∃ v, Fits bs (v :: x.dropLast) ∧ Let bs (v :: x) := by
  obtain ⟨v, hv⟩ := h.snoc B
  obtain ⟨u, hu⟩ := h.cons B
  refine ⟨⟨v, ?_, hv.let B⟩, u, ?_, hu.let B⟩
  · have := hv.drop 1
    rwa [List.drop_append_of_le_length (by cases x with | nil => exact absurd rfl hx | cons _ _ => simp)] at this
  · have := hu.take x.length
    cases x with
    | nil => exact absurd rfl hx
    | cons a x =>
      rw [List.length_cons, List.take_succ_cons] at this
      rwa [List.dropLast_eq_take, List.length_cons, Nat.add_sub_cancel]
end LW

/-! P10: least and greatest sums of fitting lists by their last blocks. No program in sight. -/
namespace LW
open CT
abbrev Ent := List Int × Int × Int
/-- each entry's bounds are sums of lists of n days that fit and end in its block -/
def Snd (bs : List Bd) (many n : Nat) (es : List Ent) : Prop := ∀ e, e ∈ es → (∃ x, Fits bs x ∧ x.length = n ∧ x.drop (n - many) = e.1 ∧ x.sum = e.2.1) ∧ ∃ x, Fits bs x ∧ x.length = n ∧ x.drop (n - many) = e.1 ∧ x.sum = e.2.2
/-- each list of n days that fits is told by its block's entry -/
def Cpl (bs : List Bd) (many n : Nat) (es : List Ent) : Prop := ∀ x, Fits bs x → x.length = n → ∃ e, e ∈ es ∧ e.1 = x.drop (n - many) ∧ e.2.1 ≤ x.sum ∧ x.sum ≤ e.2.2
def upE (es : List Ent) (t : List Int) (l g : Int) : List Ent := if t ∈ es.map Prod.fst then es.map (fun e => if e.1 = t then (t, min e.2.1 l, max e.2.2 g) else e) else es ++ [(t, l, g)]
theorem upE_keys {es : List Ent} {t : List Int} {l g : Int} : (upE es t l g).map Prod.fst = if t ∈ es.map Prod.fst then es.map Prod.fst else es.map Prod.fst ++ [t] := by
  unfold upE
  split
  · rw [List.map_map]
    refine List.map_congr_left fun e _ => ?_
    show (if e.1 = t then (t, min e.2.1 l, max e.2.2 g) else e).1 = e.1
    split
    · rename_i h; exact h.symm
    · rfl
  · rw [List.map_append]
    rfl
theorem upE_nodup {es : List Ent} {t : List Int} {l g : Int} (h : (es.map Prod.fst).Nodup) : ((upE es t l g).map Prod.fst).Nodup := by
  rw [upE_keys]
  split
  · exact h
  · rename_i n
    rw [List.nodup_append]
    refine ⟨h, by simp, fun a ha b hb z => ?_⟩
    rw [List.mem_singleton.mp hb] at z
    exact n (z ▸ ha)
/-- what an entry told stays told -/
theorem upE_old {es : List Ent} {t : List Int} {l g : Int} {e : Ent} (he : e ∈ es) : ∃ e', e' ∈ upE es t l g ∧ e'.1 = e.1 ∧ e'.2.1 ≤ e.2.1 ∧ e.2.2 ≤ e'.2.2 := by
  unfold upE
  split
  · refine ⟨if e.1 = t then (t, min e.2.1 l, max e.2.2 g) else e, List.mem_map.mpr ⟨e, he, rfl⟩, ?_⟩
    split
    · rename_i h
      exact ⟨h.symm, Int.min_le_left _ _, Int.le_max_left _ _⟩
    · exact ⟨rfl, Int.le_refl _, Int.le_refl _⟩
  · exact ⟨e, List.mem_append_left _ he, rfl, Int.le_refl _, Int.le_refl _⟩
theorem upE_new {es : List Ent} {t : List Int} {l g : Int} : ∃ e', e' ∈ upE es t l g ∧ e'.1 = t ∧ e'.2.1 ≤ l ∧ g ≤ e'.2.2 := by
  unfold upE
  split
  · rename_i h
    obtain ⟨e, he, rfl⟩ := List.mem_map.mp h
    refine ⟨_, List.mem_map.mpr ⟨e, he, rfl⟩, ?_⟩
    rw [if_pos rfl]
    exact ⟨rfl, Int.min_le_right _ _, Int.le_max_right _ _⟩
  · exact ⟨_, List.mem_append_right _ (List.mem_singleton.mpr rfl), rfl, Int.le_refl _, Int.le_refl _⟩
theorem upE_snd {bs : List Bd} {many n : Nat} {es : List Ent} {t : List Int} {l g : Int} (h : Snd bs many n es)
    (hl : ∃ x, Fits bs x ∧ x.length = n ∧ x.drop (n - many) = t ∧ x.sum = l) (hg : ∃ x, Fits bs x ∧ x.length = n ∧ x.drop (n - many) = t ∧ x.sum = g) : Snd bs many n (upE es t l g) := by
  intro e he
  unfold upE at he
  split at he
  · obtain ⟨e0, h0, rfl⟩ := List.mem_map.mp he
    obtain ⟨a, b⟩ := h e0 h0
    split
    · rename_i c
      rw [c] at a b
      refine ⟨?_, ?_⟩
      · show ∃ x, Fits bs x ∧ x.length = n ∧ x.drop (n - many) = t ∧ x.sum = min e0.2.1 l
        rcases Int.le_total e0.2.1 l with k | k
        · rw [Int.min_eq_left k]; exact a
        · rw [Int.min_eq_right k]; exact hl
      · show ∃ x, Fits bs x ∧ x.length = n ∧ x.drop (n - many) = t ∧ x.sum = max e0.2.2 g
        rcases Int.le_total e0.2.2 g with k | k
        · rw [Int.max_eq_right k]; exact hg
        · rw [Int.max_eq_left k]; exact b
    · exact ⟨a, b⟩
  · rcases List.mem_append.mp he with z | z
    · exact h e z
    · rw [List.mem_singleton.mp z]
      exact ⟨hl, hg⟩
/-- days of the row of greatest sums, from o on -/
noncomputable def eL (as : List Bd) (o : Int) (n : Nat) : List Int := (List.range n).map fun i => gs as (o + (i : Nat) + 1) - gs as (o + (i : Nat))
theorem eL_len (as : List Bd) (o : Int) (n : Nat) : (eL as o n).length = n := by unfold eL; simp
theorem eL_pre (as : List Bd) (o : Int) (n : Nat) : ∀ j : Nat, j ≤ n → pre (eL as o n) j = gs as (o + j) - gs as o
  | 0, _ => by rw [pre_zero]; simp
  | j + 1, h => by
    rw [pre_succ (by rw [eL_len]; omega), eL_pre as o n j (by omega)]
    have : (eL as o n)[j]'(by rw [eL_len]; omega) = gs as (o + (j : Nat) + 1) - gs as (o + (j : Nat)) := by unfold eL; simp
    rw [this, show o + ((j + 1 : Nat) : Int) = o + (j : Nat) + 1 by omega]
    omega
theorem eL_fits {as : List Bd} (A : Bk as) (o : Int) (n : Nat) : Fits as (eL as o n) := Fits.of_row A A.row fun i hi => eL_pre as o n i (by rw [eL_len] at hi; exact hi)
theorem eL_great {as : List Bd} (A : Bk as) (n : Nat) : (eL as 0 n).sum = gs as n := by
  rw [← pre_all (eL as 0 n) (i := n) (by rw [eL_len]; exact Nat.le_refl _), eL_pre _ _ _ _ (Nat.le_refl _), A.zero, Int.zero_add]
  omega
theorem eL_least {as : List Bd} (A : Bk as) (n : Nat) : (eL as (-(n : Int)) n).sum = -gs as (-(n : Int)) := by
  rw [← pre_all (eL as (-(n : Int)) n) (i := n) (by rw [eL_len]; exact Nat.le_refl _), eL_pre _ _ _ _ (Nat.le_refl _), show -(n : Int) + (n : Nat) = 0 by omega, A.zero]
  omega
theorem Fits.sums {bs : List Bd} {x : List Int} (h : Fits bs x) : -gs bs (-(x.length : Int)) ≤ x.sum ∧ x.sum ≤ gs bs x.length := by
  have a := h 0 x.length (Nat.zero_le _) (Nat.le_refl _)
  have b := h x.length 0 (Nat.le_refl _) (Nat.zero_le _)
  rw [pre_zero, pre_all x (Nat.le_refl _)] at a b
  rw [show ((x.length : Nat) : Int) - ((0 : Nat) : Int) = x.length by omega] at a
  rw [show ((0 : Nat) : Int) - ((x.length : Nat) : Int) = -(x.length : Int) by omega] at b
  omega
/-- the greatest and the least of all entries -/
theorem ent_max {bs : List Bd} (B : Bk bs) {many n : Nat} {es : List Ent} (h : Snd bs many n es) (c : Cpl bs many n es) : (es.map fun e => e.2.2).max? = some (gs bs n) ∧ (es.map fun e => e.2.1).min? = some (-gs bs (-(n : Int))) := by
  have bd : ∀ x, Fits bs x → x.length = n → -gs bs (-(n : Int)) ≤ x.sum ∧ x.sum ≤ gs bs n := fun x hx hl => by
    have := hx.sums
    rw [hl] at this
    exact this
  constructor
  · refine List.max?_eq_some_iff.mpr ⟨?_, ?_⟩
    · obtain ⟨e, he, _, _, h2⟩ := c _ (eL_fits B 0 n) (eL_len ..)
      rw [eL_great B] at h2
      obtain ⟨x, hx, hl, _, e2⟩ := (h e he).2
      have := (bd x hx hl).2
      exact List.mem_map.mpr ⟨e, he, by omega⟩
    · intro b hb
      obtain ⟨e, he, rfl⟩ := List.mem_map.mp hb
      obtain ⟨x, hx, hl, _, e2⟩ := (h e he).2
      have := (bd x hx hl).2
      omega
  · refine List.min?_eq_some_iff.mpr ⟨?_, ?_⟩
    · obtain ⟨e, he, _, h2, _⟩ := c _ (eL_fits B (-(n : Int)) n) (eL_len ..)
      rw [eL_least B] at h2
      obtain ⟨x, hx, hl, _, e2⟩ := (h e he).1
      have := (bd x hx hl).1
      exact List.mem_map.mpr ⟨e, he, by omega⟩
    · intro b hb
      obtain ⟨e, he, rfl⟩ := List.mem_map.mp hb
      obtain ⟨x, hx, hl, _, e2⟩ := (h e he).1
      have := (bd x hx hl).1
      omega
end LW

/-! P11: far sums grow by the least upper share. No program in sight. -/
namespace LW
open CT
theorem gs_period {bs : List Bd} (B : Bk bs) {U : Bd} (hU : U ∈ bs) (h : Shr bs U.w U.m) {W n : Int} (hW : ∀ b, b ∈ bs → b.w ≤ W) (hn : U.w * W ≤ n) : gs bs (n + U.w) = gs bs n + U.m := by
  have w0 := B.w0 U hU
  have b := (B.gs n).red (b := U.m) w0
  obtain ⟨a, ha⟩ := Int.eq_ofNat_of_zero_le (show 0 ≤ U.w by omega)
  have h0 : ∀ s, s ∈ red U.w U.m (stB bs) → 0 ≤ s.2 := fun s hs => by
    obtain ⟨t, ht, rfl⟩ := List.mem_map.mp hs
    have := h.steps t ht
    show 0 ≤ t.2 * U.w - U.m * t.1
    rw [Int.mul_comm t.2]
    omega
  have hw : ∀ s, s ∈ red U.w U.m (stB bs) → s.1 ≤ W := fun s hs => by
    obtain ⟨t, ht, rfl⟩ := List.mem_map.mp hs
    obtain ⟨c, hc, rfl | rfl⟩ := mem_stB.mp ht
    · exact hW c hc
    · show -c.w ≤ W
      have := B.w0 c hc
      have := hW c hc
      omega
  have hl : (U.w, (0 : Int)) ∈ red U.w U.m (stB bs) := List.mem_map.mpr ⟨(U.w, U.m), mem_stB.mpr ⟨U, hU, .inl rfl⟩, by
    show (U.w, U.m * U.w - U.m * U.w) = (U.w, (0 : Int))
    rw [Int.sub_self]⟩
  have p := _root_.CT.period (a := a) (w := W) (by omega) h0 hw (by rw [← ha]; exact hl) (by rw [← ha]; exact hn) b
  rw [← ha] at p
  obtain ⟨c, hc, e⟩ := p.unred w0
  rw [gs_of hc]
  have e2 : U.w * (c - gs bs n) = U.w * U.m := by
    rw [Int.mul_sub, Int.mul_comm U.w U.m]
    rw [Int.mul_add] at e
    omega
  have := Int.eq_of_mul_eq_mul_left (show U.w ≠ 0 by omega) e2
  omega
theorem gs_period_k {bs : List Bd} (B : Bk bs) {U : Bd} (hU : U ∈ bs) (h : Shr bs U.w U.m) {W n : Int} (hW : ∀ b, b ∈ bs → b.w ≤ W) (hn : U.w * W ≤ n) : ∀ k : Nat, gs bs (n + k * U.w) = gs bs n + k * U.m
  | 0 => by simp
  | k + 1 => by
    have w0 := B.w0 U hU
    have ih := gs_period_k B hU h hW hn k
    have k0 : 0 ≤ (k : Int) * U.w := Int.mul_nonneg (by omega) (by omega)
    have := gs_period B hU h hW (n := n + k * U.w) (by omega)
    rw [show ((k + 1 : Nat) : Int) = (k : Int) + 1 by omega, Int.add_mul, Int.add_mul, Int.one_mul, Int.one_mul, ← Int.add_assoc, this, ih]
    omega
end LW

/-! P12: the most that sums can grow from one place to another one, with known sums. -/
namespace LW
/-- D a b: the most that the sum ahead of b is above that ahead of a; known sums begin and end at the places ps -/
structure NetD (bs : List Bd) (ps : List Int) (D : Int → Int → Int) : Prop where
  self : ∀ a, D a a = 0
  tri : ∀ a b c, D a c ≤ D a b + D b c
  le : ∀ a b, D a b ≤ gs bs (b - a)
  fst : ∀ a b, D a b = gs bs (b - a) ∨ ∃ o, o ∈ ps ∧ D a b = gs bs (o - a) + D o b
  lst : ∀ a b, D a b = gs bs (b - a) ∨ ∃ o, o ∈ ps ∧ D a b = D a o + gs bs (b - o)
theorem NetD.nil {bs : List Bd} (h : Bk bs) : NetD bs [] fun a b => gs bs (b - a) where
  self := fun a => by rw [Int.sub_self]; exact h.zero
  tri := fun a b c => by
    have := h.add (b - a) (c - b)
    rwa [show b - a + (c - b) = c - a by omega] at this
  le := fun a b => Int.le_refl _
  fst := fun a b => .inl rfl
  lst := fun a b => .inl rfl
theorem NetD.more {bs : List Bd} {ps qs : List Int} {D : Int → Int → Int} (h : NetD bs ps D) (s : ∀ p, p ∈ ps → p ∈ qs) : NetD bs qs D :=
  ⟨h.self, h.tri, h.le, fun a b => (h.fst a b).imp id fun ⟨o, ho, e⟩ => ⟨o, s o ho, e⟩, fun a b => (h.lst a b).imp id fun ⟨o, ho, e⟩ => ⟨o, s o ho, e⟩⟩
theorem NetD.neg {bs : List Bd} {ps : List Int} {D : Int → Int → Int} (h : NetD bs ps D) (a b : Int) : -D b a ≤ D a b := by
  have := h.tri a b a
  have := h.self a
  omega
/-- with one known sum more -/
def tieD (D : Int → Int → Int) (b e t : Int) (x y : Int) : Int :=
  if D x e - t + D b y < (if D x b + t + D e y < D x y then D x b + t + D e y else D x y) then D x e - t + D b y else (if D x b + t + D e y < D x y then D x b + t + D e y else D x y)
theorem tieD_cases (D : Int → Int → Int) (b e t x y : Int) : (tieD D b e t x y ≤ D x y ∧ tieD D b e t x y ≤ D x b + t + D e y ∧ tieD D b e t x y ≤ D x e - t + D b y) ∧ (tieD D b e t x y = D x y ∨ tieD D b e t x y = D x b + t + D e y ∨ tieD D b e t x y = D x e - t + D b y) := by
  unfold tieD
  split <;> split <;> omega
theorem NetD.tie {bs : List Bd} {ps : List Int} {D : Int → Int → Int} (h : NetD bs ps D) {b e t : Int} (hb : b ∈ ps) (he : e ∈ ps) (h1 : -D e b ≤ t) (h2 : t ≤ D b e) : NetD bs ps (tieD D b e t) := by
  have tri : ∀ x y z, tieD D b e t x z ≤ tieD D b e t x y + tieD D b e t y z := fun x y z => by
    obtain ⟨⟨a1, a2, a3⟩, _⟩ := tieD_cases D b e t x z
    obtain ⟨_, c1⟩ := tieD_cases D b e t x y
    obtain ⟨_, c2⟩ := tieD_cases D b e t y z
    have t1 := h.tri x y z
    have t2 := h.tri x y b
    have t3 := h.tri x y e
    have t4 := h.tri e y z
    have t5 := h.tri b y z
    have t6 := h.tri e y b
    have t7 := h.tri b y e
    have t8 := h.tri e y e
    have t9 := h.tri b y b
    have s1 := h.self e
    have s2 := h.self b
    have u1 := h.tri x b z
    have u2 := h.tri x e z
    rcases c1 with c1 | c1 | c1 <;> rcases c2 with c2 | c2 | c2 <;> omega
  have le : ∀ x y, tieD D b e t x y ≤ D x y := fun x y => (tieD_cases D b e t x y).1.1
  have self : ∀ a, tieD D b e t a a = 0 := fun a => by
    have q := tri a a a
    have q2 := le a a
    have := h.self a
    omega
  have one : ∀ y, tieD D b e t b y ≤ t + D e y := fun y => by
    have := (tieD_cases D b e t b y).1.2.1
    have := h.self b
    omega
  have two : ∀ y, tieD D b e t e y ≤ -t + D b y := fun y => by
    have := (tieD_cases D b e t e y).1.2.2
    have := h.self e
    omega
  have one' : ∀ x, tieD D b e t x e ≤ D x b + t := fun x => by
    have := (tieD_cases D b e t x e).1.2.1
    have := h.self e
    omega
  have two' : ∀ x, tieD D b e t x b ≤ D x e - t := fun x => by
    have := (tieD_cases D b e t x b).1.2.2
    have := h.self b
    omega
  have up : ∀ x y, tieD D b e t x y ≤ gs bs (y - x) := fun x y => Int.le_trans (le x y) (h.le x y)
  refine ⟨self, tri, up, fun x y => ?_, fun x y => ?_⟩
  · have go : ∀ o, o ∈ ps → gs bs (o - x) + tieD D b e t o y ≤ tieD D b e t x y → ∃ o, o ∈ ps ∧ tieD D b e t x y = gs bs (o - x) + tieD D b e t o y := fun o ho q => ⟨o, ho, by
      have := tri x o y
      have := up x o
      omega⟩
    rcases (tieD_cases D b e t x y).2 with c | c | c
    · rcases h.fst x y with f | ⟨o, ho, f⟩
      · exact .inl (by omega)
      · exact .inr (go o ho (by have := le o y; omega))
    · rcases h.fst x b with f | ⟨o, ho, f⟩
      · exact .inr (go b hb (by have := one y; omega))
      · exact .inr (go o ho (by have := (tieD_cases D b e t o y).1.2.1; omega))
    · rcases h.fst x e with f | ⟨o, ho, f⟩
      · exact .inr (go e he (by have := two y; omega))
      · exact .inr (go o ho (by have := (tieD_cases D b e t o y).1.2.2; omega))
  · have go : ∀ o, o ∈ ps → tieD D b e t x o + gs bs (y - o) ≤ tieD D b e t x y → ∃ o, o ∈ ps ∧ tieD D b e t x y = tieD D b e t x o + gs bs (y - o) := fun o ho q => ⟨o, ho, by
      have := tri x o y
      have := up o y
      omega⟩
    rcases (tieD_cases D b e t x y).2 with c | c | c
    · rcases h.lst x y with f | ⟨o, ho, f⟩
      · exact .inl (by omega)
      · exact .inr (go o ho (by have := le x o; omega))
    · rcases h.lst e y with f | ⟨o, ho, f⟩
      · exact .inr (go e he (by have := one' x; omega))
      · exact .inr (go o ho (by have := (tieD_cases D b e t x o).1.2.1; omega))
    · rcases h.lst b y with f | ⟨o, ho, f⟩
      · exact .inr (go b hb (by have := two' x; omega))
      · exact .inr (go o ho (by have := (tieD_cases D b e t x o).1.2.2; omega))
/-- the least of a number and others -/
theorem NetD.there {bs : List Bd} {ps : List Int} {D : Int → Int → Int} (h : NetD bs ps D) (p s : Int) : (∀ o, o ∈ ps → D p s ≤ gs bs (o - p) + D o s) ∧ D p s ≤ gs bs (s - p) ∧ (D p s = gs bs (s - p) ∨ ∃ o, o ∈ ps ∧ D p s = gs bs (o - p) + D o s) :=
  ⟨fun o _ => by have := h.tri p o s; have := h.le p o; omega, h.le p s, h.fst p s⟩
theorem NetD.back {bs : List Bd} {ps : List Int} {D : Int → Int → Int} (h : NetD bs ps D) (p s : Int) : (∀ o, o ∈ ps → D s p ≤ D s o + gs bs (p - o)) ∧ D s p ≤ gs bs (p - s) ∧ (D s p = gs bs (p - s) ∨ ∃ o, o ∈ ps ∧ D s p = D s o + gs bs (p - o)) :=
  ⟨fun o _ => by have := h.tri s o p; have := h.le o p; omega, h.le s p, h.lst s p⟩
end LW

/-! M7: the store while least costs are sought. -/
namespace EV
open PySem PySem.Spec PyProof.Rows L2 CT
/-- a layer: its cost, its cell, its places -/
structure La where
  k : Int
  c : Nat
  ps : List Int
def La.em (e : La) : Key × D := (.inl e.k, .cell e.c)
def oD : Option Int → D
  | none => .non
  | some i => .int i
structure DS (n : Nat) (S : Sto) (fd : List (Option Int)) (L : List La) (T : Sto) : Prop where
  pre : ∀ i, i < n → T[i]? = S[i]?
  len : n + 3 ≤ T.length
  dic : T[n + 1]? = some (some (.dK (L.map La.em)))
  fnd : T[n + 2]? = some (some (.lst (fd.map oD)))
  cel : ∀ e, e ∈ L → T[e.c]? = some (some (.lst (e.ps.map .int))) ∧ n ≤ e.c ∧ e.c ≠ n + 1 ∧ e.c ≠ n + 2
  nd : (L.map La.c).Nodup
  ks : (L.map La.k).Nodup
def owL (L : List La) (k q : Int) : Prop := ∃ e, e ∈ L ∧ e.k = k ∧ q ∈ e.ps
def fdF (fd : List (Option Int)) (p : Int) : Option Int := if 0 ≤ p then (fd[p.toNat]?).join else none
section
variable {n : Nat} {S T : Sto} {fd : List (Option Int)} {L : List La}
theorem get_app {T : Sto} {x : Option Cell} {i : Nat} {y : Option Cell} (h : T[i]? = some y) : (T ++ [x])[i]? = some y := by
  rw [List.getElem?_append_left (List.getElem?_eq_some_iff.mp h).1]
  exact h
theorem DS.app (h : DS n S fd L T) (x : Option Cell) : DS n S fd L (T ++ [x]) where
  pre := fun i hi => by rw [List.getElem?_append_left (by have := h.len; omega)]; exact h.pre i hi
  len := by rw [List.length_append]; have := h.len; omega
  dic := get_app h.dic
  fnd := get_app h.fnd
  cel := fun e he => ⟨get_app (h.cel e he).1, (h.cel e he).2⟩
  nd := h.nd
  ks := h.ks
theorem find_em : ∀ {L : List La} {e : La}, (L.map La.k).Nodup → e ∈ L → findK (.inl e.k) (L.map La.em) = some (.cell e.c)
  | a :: L, e, hn, he => by
    rw [List.map_cons, List.nodup_cons] at hn
    rw [List.map_cons]
    unfold La.em findK
    try dsimp only
    rcases List.mem_cons.mp he with z | z
    · subst z
      rw [if_pos rfl]
    · have ne : ¬ (Sum.inl a.k : Key) = .inl e.k := fun q => hn.1 (by
        rw [Sum.inl.inj q]
        exact List.mem_map_of_mem z)
      rw [if_neg ne]
      exact find_em hn.2 z
theorem find_no : ∀ {L : List La} {k : Int}, k ∉ L.map La.k → findK (.inl k) (L.map La.em) = none
  | [], _, _ => rfl
  | a :: L, k, h => by
    rw [List.map_cons] at h ⊢
    unfold La.em findK
    try dsimp only
    have ne : ¬ (Sum.inl a.k : Key) = .inl k := fun q => h (by
      rw [Sum.inl.inj q]
      exact List.mem_cons_self ..)
    rw [if_neg ne]
    exact find_no fun z => h (List.mem_cons_of_mem _ z)
theorem del_em (k : Int) : ∀ L : List La, delK (L.map La.em) (.inl k) = (L.filter fun e => decide (e.k ≠ k)).map La.em
  | [] => rfl
  | a :: L => by
    have ih := del_em k L
    unfold delK at ih ⊢
    rw [List.map_cons, List.filter_cons, List.filter_cons]
    by_cases z : a.k = k
    · have e1 : decide ((La.em a).1 ≠ .inl k) = false := by
        simp [La.em, z]
      have e2 : decide (a.k ≠ k) = false := by simp [z]
      rw [e1, e2]
      simpa using ih
    · have e1 : decide ((La.em a).1 ≠ .inl k) = true := by
        simp [La.em, z]
      have e2 : decide (a.k ≠ k) = true := by simp [z]
      rw [e1, e2]
      simp only [if_true, List.map_cons]
      exact congrArg _ ih
theorem keys_em : ∀ L : List La, keysI (L.map La.em) = some (L.map La.k)
  | [] => rfl
  | a :: L => by
    rw [List.map_cons, List.map_cons]
    show (keysI (L.map La.em)).map (a.k :: ·) = _
    rw [keys_em L]
    rfl
/-- a layer is taken -/
theorem DS.pop (h : DS n S fd L T) {e : La} (he : e ∈ L) : popK (.cell (n + 1)) (.int e.k) T = some (.ok (.cell e.c), T.set (n + 1) (some (.dK ((L.filter fun a => decide (a.k ≠ e.k)).map La.em)))) ∧
    DS n S fd (L.filter fun a => decide (a.k ≠ e.k)) (T.set (n + 1) (some (.dK ((L.filter fun a => decide (a.k ≠ e.k)).map La.em)))) := by
  have hl := h.len
  refine ⟨?_, ?_, ?_, ?_, ?_, ?_, ?_, ?_⟩
  · unfold popK
    try dsimp only
    rw [h.dic]
    try dsimp only
    rw [find_em h.ks he, del_em]
  · intro i hi
    rw [List.getElem?_set_ne (by omega)]
    exact h.pre i hi
  · rw [List.length_set]; exact hl
  · rw [List.getElem?_set_self (by omega)]
  · rw [List.getElem?_set_ne (by omega)]; exact h.fnd
  · intro a ha
    have ha' := (List.mem_filter.mp ha).1
    obtain ⟨q1, q2, q3, q4⟩ := h.cel a ha'
    exact ⟨by rw [List.getElem?_set_ne (Ne.symm q3)]; exact q1, q2, q3, q4⟩
  · exact h.nd.sublist (List.Sublist.map _ List.filter_sublist)
  · exact h.ks.sublist (List.Sublist.map _ List.filter_sublist)
/-- a place is settled -/
theorem DS.put (h : DS n S fd L T) (p : Nat) (c : Int) : DS n S (fd.set p (some c)) L (T.set (n + 2) (some (.lst ((fd.set p (some c)).map oD)))) where
  pre := fun i hi => by rw [List.getElem?_set_ne (by omega)]; exact h.pre i hi
  len := by rw [List.length_set]; exact h.len
  dic := by rw [List.getElem?_set_ne (by omega)]; exact h.dic
  fnd := by rw [List.getElem?_set_self (by have := h.len; omega)]
  cel := fun e he => by
    obtain ⟨q1, q2, q3, q4⟩ := h.cel e he
    exact ⟨by rw [List.getElem?_set_ne (Ne.symm q4)]; exact q1, q2, q3, q4⟩
  nd := h.nd
  ks := h.ks
theorem fdF_set {p : Int} {c : Int} (h0 : 0 ≤ p) (h1 : p < fd.length) : fdF (fd.set p.toNat (some c)) = fun q => if q = p then some c else fdF fd q := by
  funext q
  unfold fdF
  by_cases z : q = p
  · subst z
    rw [if_pos h0, if_pos rfl, List.getElem?_set_self (by omega)]
    rfl
  · rw [if_neg z]
    by_cases q0 : 0 ≤ q
    · rw [if_pos q0, if_pos q0, List.getElem?_set_ne (by omega)]
    · rw [if_neg q0, if_neg q0]
/-- layers with one place more -/
def pushL (L : List La) (k : Int) (m : Nat) (q : Int) : List La := if k ∈ L.map La.k then L.map (fun e => if e.k = k then ⟨e.k, e.c, e.ps ++ [q]⟩ else e) else L ++ [⟨k, m, [q]⟩]
theorem push_k (L : List La) (k : Int) (m : Nat) (q : Int) : ∀ e, e ∈ pushL L k m q → e.k = k ∨ ∃ a, a ∈ L ∧ a.k = e.k := by
  intro e he
  unfold pushL at he
  split at he
  · obtain ⟨a, ha, rfl⟩ := List.mem_map.mp he
    by_cases z : a.k = k
    · rw [if_pos z]; exact .inl z
    · rw [if_neg z]; exact .inr ⟨a, ha, rfl⟩
  · rcases List.mem_append.mp he with z | z
    · exact .inr ⟨e, z, rfl⟩
    · rw [List.mem_singleton.mp z]; exact .inl rfl
theorem push_ow (L : List La) (k : Int) (m : Nat) (q : Int) (k' q' : Int) : owL (pushL L k m q) k' q' ↔ owL L k' q' ∨ (k' = k ∧ q' = q) := by
  unfold owL pushL
  by_cases hk : k ∈ L.map La.k
  · rw [if_pos hk]
    obtain ⟨a, ha, ak⟩ := List.mem_map.mp hk
    constructor
    · rintro ⟨e, he, e1, e2⟩
      obtain ⟨b, hb, rfl⟩ := List.mem_map.mp he
      by_cases z : b.k = k
      · rw [if_pos z] at e1 e2
        rcases List.mem_append.mp e2 with y | y
        · exact .inl ⟨b, hb, e1, y⟩
        · exact .inr ⟨by rw [← e1]; exact z, List.mem_singleton.mp y⟩
      · rw [if_neg z] at e1 e2
        exact .inl ⟨b, hb, e1, e2⟩
    · rintro (⟨e, he, e1, e2⟩ | ⟨rfl, rfl⟩)
      · refine ⟨_, List.mem_map_of_mem he, ?_, ?_⟩
        · split <;> exact e1
        · split
          · exact List.mem_append_left _ e2
          · exact e2
      · refine ⟨_, List.mem_map_of_mem ha, ?_, ?_⟩
        · rw [if_pos ak]; exact ak
        · rw [if_pos ak]; exact List.mem_append_right _ (List.mem_singleton.mpr rfl)
  · rw [if_neg hk]
    constructor
    · rintro ⟨e, he, e1, e2⟩
      rcases List.mem_append.mp he with z | z
      · exact .inl ⟨e, z, e1, e2⟩
      · rw [List.mem_singleton.mp z] at e1 e2
        exact .inr ⟨e1.symm, List.mem_singleton.mp e2⟩
    · rintro (⟨e, he, e1, e2⟩ | ⟨rfl, rfl⟩)
      · exact ⟨e, List.mem_append_left _ he, e1, e2⟩
      · exact ⟨_, List.mem_append_right _ (List.mem_singleton.mpr rfl), rfl, List.mem_singleton.mpr rfl⟩
theorem DS.push (h : DS n S fd L T) (k q : Int) (hL : L.length < 16000000) (hp : ∀ e, e ∈ L → e.ps.length < 16000000) : ∃ c xs T2, setdK (.cell (n + 1)) (.int k) (.cell T.length) (T ++ [some (.lst [])]) = some (.ok (.cell c), T2) ∧ T2[c]? = some (some (.lst xs)) ∧ xs.length < 16000000 ∧
    DS n S fd (pushL L k T.length q) (T2.set c (some (.lst (xs ++ [.int q])))) ∧ ∀ i, i < T.length → i ≠ n + 1 → i ∉ L.map La.c → (T2.set c (some (.lst (xs ++ [.int q]))))[i]? = T[i]? := by
  have hl := h.len
  have h1 := h.app (some (.lst []))
  have lL : (L.map La.em).length < cap := by rw [List.length_map]; exact hL
  by_cases hk : k ∈ L.map La.k
  · obtain ⟨e, he, rfl⟩ := List.mem_map.mp hk
    obtain ⟨q1, q2, q3, q4⟩ := h1.cel e he
    have clt := (List.getElem?_eq_some_iff.mp q1).1
    refine ⟨e.c, e.ps.map .int, T ++ [some (.lst [])], ?_, q1, by rw [List.length_map]; exact hp e he, ?_, ?_⟩
    · unfold setdK
      try dsimp only
      rw [h1.dic]
      try dsimp only
      rw [if_pos lL, find_em h.ks he]
    · have inj : ∀ a, a ∈ L → a.c = e.c → a = e := by
        intro a ha hc
        have nd := h.nd
        clear q1 q2 q3 q4 clt h1 hk hp hL lL h
        induction L with
        | nil => exact (List.not_mem_nil ha).elim
        | cons b L ih =>
          rw [List.map_cons, List.nodup_cons] at nd
          rcases List.mem_cons.mp ha with x | x <;> rcases List.mem_cons.mp he with y | y
          · rw [x, y]
          · exact absurd (by rw [← x, hc]; exact List.mem_map_of_mem y) nd.1
          · exact absurd (by rw [← y, ← hc]; exact List.mem_map_of_mem x) nd.1
          · exact ih y x nd.2
      have ik : ∀ a, a ∈ L → a.k = e.k → a = e := by
        intro a ha hc
        have nd := h.ks
        clear q1 q2 q3 q4 clt h1 hk hp hL lL h inj
        induction L with
        | nil => exact (List.not_mem_nil ha).elim
        | cons b L ih =>
          rw [List.map_cons, List.nodup_cons] at nd
          rcases List.mem_cons.mp ha with x | x <;> rcases List.mem_cons.mp he with y | y
          · rw [x, y]
          · exact absurd (by rw [← x, hc]; exact List.mem_map_of_mem y) nd.1
          · exact absurd (by rw [← y, ← hc]; exact List.mem_map_of_mem x) nd.1
          · exact ih y x nd.2
      unfold pushL
      rw [if_pos hk]
      have me : (L.map fun a => if a.k = e.k then (⟨a.k, a.c, a.ps ++ [q]⟩ : La) else a).map La.em = L.map La.em := by
        rw [List.map_map]
        refine List.map_congr_left fun a _ => ?_
        show La.em (if a.k = e.k then _ else a) = La.em a
        split <;> rfl
      have mc : (L.map fun a => if a.k = e.k then (⟨a.k, a.c, a.ps ++ [q]⟩ : La) else a).map La.c = L.map La.c := by
        rw [List.map_map]
        refine List.map_congr_left fun a _ => ?_
        show La.c (if a.k = e.k then _ else a) = La.c a
        split <;> rfl
      have mk : (L.map fun a => if a.k = e.k then (⟨a.k, a.c, a.ps ++ [q]⟩ : La) else a).map La.k = L.map La.k := by
        rw [List.map_map]
        refine List.map_congr_left fun a _ => ?_
        show La.k (if a.k = e.k then _ else a) = La.k a
        split <;> rfl
      refine ⟨fun i hi => ?_, ?_, ?_, ?_, fun b hb => ?_, by rw [mc]; exact h.nd, by rw [mk]; exact h.ks⟩
      · rw [List.getElem?_set_ne (by omega)]; exact h1.pre i hi
      · rw [List.length_set]; exact h1.len
      · rw [List.getElem?_set_ne q3, me]; exact h1.dic
      · rw [List.getElem?_set_ne q4]; exact h1.fnd
      · obtain ⟨a, ha, rfl⟩ := List.mem_map.mp hb
        by_cases z : a.k = e.k
        · rw [if_pos z]
          have := ik a ha z
          subst this
          refine ⟨?_, q2, q3, q4⟩
          rw [List.getElem?_set_self clt]
          simp
        · rw [if_neg z]
          obtain ⟨w1, w2, w3, w4⟩ := h1.cel a ha
          refine ⟨?_, w2, w3, w4⟩
          rw [List.getElem?_set_ne fun y => z (by rw [inj a ha y.symm])]
          exact w1
    · intro i hi ni nc
      rw [List.getElem?_set_ne fun y => nc (by rw [← y]; exact List.mem_map_of_mem he), List.getElem?_append_left hi]
  · have tl : T.length < (T ++ [some (Cell.lst [])]).length := by rw [List.length_append]; exact Nat.lt_succ_self _
    have g0 : (T ++ [some (Cell.lst [])])[T.length]? = some (some (.lst [])) := by rw [List.getElem?_append_right (Nat.le_refl _), Nat.sub_self]; rfl
    refine ⟨T.length, [], (T ++ [some (Cell.lst [])]).set (n + 1) (some (Cell.dK (L.map La.em ++ [((Sum.inl k : Key), D.cell T.length)]))), ?_, ?_, by decide, ?_, ?_⟩
    · unfold setdK
      try dsimp only
      rw [h1.dic]
      try dsimp only
      rw [if_pos lL, find_no hk]
    · rw [List.getElem?_set_ne (by omega)]; exact g0
    · unfold pushL
      rw [if_neg hk]
      refine ⟨fun i hi => ?_, ?_, ?_, ?_, fun b hb => ?_, ?_, ?_⟩
      · rw [List.getElem?_set_ne (by omega), List.getElem?_set_ne (by omega)]; exact h1.pre i hi
      · rw [List.length_set, List.length_set]; exact h1.len
      · rw [List.getElem?_set_ne (by omega), List.getElem?_set_self (by omega), List.map_append]
        rfl
      · rw [List.getElem?_set_ne (by omega), List.getElem?_set_ne (by omega)]; exact h1.fnd
      · rcases List.mem_append.mp hb with z | z
        · obtain ⟨w1, w2, w3, w4⟩ := h1.cel b z
          have blt := (List.getElem?_eq_some_iff.mp (h.cel b z).1).1
          exact ⟨by rw [List.getElem?_set_ne (by omega), List.getElem?_set_ne (by omega)]; exact w1, w2, w3, w4⟩
        · rw [List.mem_singleton.mp z]
          refine ⟨?_, by show n ≤ T.length; omega, by show T.length ≠ n + 1; omega, by show T.length ≠ n + 2; omega⟩
          rw [List.getElem?_set_self (by rw [List.length_set]; exact tl)]
          rfl
      · rw [List.map_append, List.nodup_append]
        refine ⟨h.nd, by simp, fun a ha b hb => ?_⟩
        obtain ⟨x, hx, rfl⟩ := List.mem_map.mp ha
        have blt := (List.getElem?_eq_some_iff.mp (h.cel x hx).1).1
        simp at hb
        rw [hb]
        omega
      · rw [List.map_append, List.nodup_append]
        refine ⟨h.ks, by simp, fun a ha b hb => ?_⟩
        simp at hb
        rw [hb]
        intro z
        exact hk (z ▸ ha)
    · intro i hi ni nc
      rw [List.getElem?_set_ne (by omega), List.getElem?_set_ne (Ne.symm ni), List.getElem?_append_left hi]
end
end EV

/-! M1: pools and draws. -/
namespace LW
open PySem PySem.Spec PyProof.Rows L2 EV

/-- a pool with draws left -/
def Pool (m : Nat) (x : Option Cell) : Prop := ∃ a b c : Int, x = some (.lst [.int a, .int b, .int c]) ∧ 0 ≤ b ∧ b < 2 ^ 62 ∧ 0 ≤ c ∧ c + m ≤ 2 ^ 40
structure PS (n m : Nat) (P : Sto) : Prop where
  len : P.length = n
  all : ∀ x, x ∈ P → Pool m x
theorem Pool.mono {m m' : Nat} {x : Option Cell} (h : Pool m x) (l : m' ≤ m) : Pool m' x := by
  obtain ⟨a, b, c, e, h1, h2, h3, h4⟩ := h
  exact ⟨a, b, c, e, h1, h2, h3, by omega⟩
theorem PS.mono {n m m' : Nat} {P : Sto} (h : PS n m P) (l : m' ≤ m) : PS n m' P := ⟨h.len, fun x hx => (h.all x hx).mono l⟩
theorem PS.low {n m : Nat} {P : Sto} (h : PS n m P) (k : Nat) : P.all (lowS k) = true := by
  rw [List.all_eq_true]
  intro x hx
  obtain ⟨a, b, c, rfl, _⟩ := h.all x hx
  rfl
theorem PS.add {n m : Nat} {P : Sto} (h : PS n m P) {x : Option Cell} (hx : Pool m x) : PS (n + 1) m (P ++ [x]) :=
  ⟨by rw [List.length_append, h.len]; rfl, fun y hy => by
    rcases List.mem_append.mp hy with z | z
    · exact h.all y z
    · rw [List.mem_singleton.mp z]; exact hx⟩
theorem log2_le' {k n : Nat} (h : k < 2 ^ n) (hn : 0 < n) : k.log2 + 1 ≤ n := log2_lt h hn
theorem powOk3 {i : Int} (h0 : 0 ≤ i) (h : i < 2 ^ 4000) : powOk i 3 = true := by
  have e := log2_lt (k := i.natAbs) (n := 4000) (by omega) (by decide)
  unfold powOk
  simp only [Bool.and_eq_true, decide_eq_true_eq]
  refine ⟨by decide, ?_⟩
  show (i.natAbs.log2 + 1) * 3 ≤ 134217728
  omega
theorem mulOk_s {i j : Int} (h1 : i.natAbs < 2 ^ 4000) (h2 : j.natAbs < 2 ^ 4000) : mulOk i j = true := by
  have e1 := log2_lt h1 (by decide)
  have e2 := log2_lt h2 (by decide)
  unfold mulOk
  simp only [decide_eq_true_eq]
  omega
theorem divOk_s {j : Int} (h0 : 0 < j) (h : j < 2 ^ 4000) : divOk j = true := by
  have e := log2_lt (k := j.natAbs) (n := 4000) (by omega) (by decide)
  unfold divOk
  simp only [Bool.and_eq_true, decide_eq_true_eq]
  omega
theorem Pool.ix {m : Nat} {a b c : Int} {S : Sto} {p : Nat} (h : S[p]? = some (some (.lst [.int a, .int b, .int c]))) :
    gIdx (.cell p) (.int 0) S = some (.ok (.int a), S) ∧ gIdx (.cell p) (.int 1) S = some (.ok (.int b), S) ∧ gIdx (.cell p) (.int 2) S = some (.ok (.int c), S) := by
  have e : seqD S (.cell p) = some [.int a, .int b, .int c] := by
    dsimp only [seqD]
    rw [h]
  refine ⟨?_, ?_, ?_⟩ <;> · unfold gIdx; dsimp only; rw [e]; rfl
theorem draw_at {n m p : Nat} {P E : Sto} {k : Int} (h : PS n (m + 1) P) (hp : p < n) (hk : 0 < k) (hk2 : k < 2 ^ 4000) :
    ∃ r P', f_Ldraw [.cell p, .int k] (P ++ E) = some (.ok (.int r), P' ++ E) ∧ 0 ≤ r ∧ r < k ∧ PS n m P' := by
  have hpl : p < P.length := by rw [h.len]; exact hp
  obtain ⟨a, b, c, e, b0, b1, c0, c1⟩ := h.all P[p] (List.getElem_mem hpl)
  have eS : (P ++ E)[p]? = some (some (.lst [.int a, .int b, .int c])) := by
    rw [List.getElem?_append_left hpl, List.getElem?_eq_getElem hpl, e]
  obtain ⟨i0, i1, i2⟩ := Pool.ix (m := m) eS
  have set : ∀ x y z : Int, Pool m (some (.lst [.int x, .int y, .int z])) → PS n m (P.set p (some (.lst [.int x, .int y, .int z]))) := fun x y z q =>
    ⟨by rw [List.length_set]; exact h.len, fun w hw => by
      rcases List.mem_or_eq_of_mem_set hw with u | u
      · exact (h.all w u).mono (Nat.le_succ m)
      · rw [u]; exact q⟩
  have mods : ∀ x : Int, gMod (.int x) (.int k) = fun S => some (.ok (.int (x % k)), S) := fun x => funext fun S => gMod_of hk
  by_cases ha : 0 < a
  · refine ⟨a % k, P.set p (some (.lst [.int (a / k), .int b, .int c])), ?_, Int.emod_nonneg _ (by omega), Int.emod_lt_of_pos _ hk, set _ _ _ ⟨_, _, _, rfl, b0, b1, c0, by omega⟩⟩
    have q : putIx (.cell p) (.int 0) (.int (a / k)) (P ++ E) = some (.ok .non, P.set p (some (.lst [.int (a / k), .int b, .int c])) ++ E) := by
      rw [putIx_of eS (m := 0) rfl, List.set_append_left _ _ hpl]
      rfl
    have q' : OkE (f_Ldraw [.cell p, .int k] (P ++ E)) fun d S => d = .int (a % k) ∧ S = P.set p (some (.lst [.int (a / k), .int b, .int c])) ++ E := by
      refine okE_fn rfl ?_
      unfold g_Ldraw
      simp [i0, ha, gMod_of hk, gDiv_of (divOk_s hk hk2), q]
    obtain ⟨_, _, q1, rfl, rfl⟩ := q'.eq
    exact q1
  · have q : putIx (.cell p) (.int 2) (.int (c + 1)) (P ++ E) = some (.ok .non, P.set p (some (.lst [.int a, .int b, .int (c + 1)])) ++ E) := by
      rw [putIx_of eS (m := 2) rfl, List.set_append_left _ _ hpl]
      rfl
    have eS' : (P.set p (some (.lst [.int a, .int b, .int (c + 1)])) ++ E)[p]? = some (some (.lst [.int a, .int b, .int (c + 1)])) := by
      rw [List.getElem?_append_left (by rw [List.length_set]; exact hpl), List.getElem?_set_self hpl]
    obtain ⟨j0, j1, j2⟩ := Pool.ix (m := m) eS'
    have l0 : ∀ x : Int, 0 ≤ x → x < 2 ^ 200 → powOk x 3 = true := fun x h0 h1 => powOk3 h0 (Int.lt_trans h1 (by decide +kernel))
    have m1 : mulOk 15485863 (c + 1) = true := mulOk_s (by decide +kernel) (Nat.lt_trans (show (c + 1).natAbs < 2 ^ 41 by omega) (by decide +kernel))
    have m2 : mulOk 32452843 (c + 1) = true := mulOk_s (by decide +kernel) (Nat.lt_trans (show (c + 1).natAbs < 2 ^ 41 by omega) (by decide +kernel))
    have p1 := l0 (b + 15485863 * (c + 1)) (by omega) (Int.lt_trans (show _ < (2 ^ 100 : Int) by omega) (by decide +kernel))
    generalize hx : (b + 15485863 * (c + 1)) ^ 3 % 162259276829213363391578010288127 = x
    have x0 : 0 ≤ x := by rw [← hx]; exact Int.emod_nonneg _ (by decide)
    have x1 : x < 162259276829213363391578010288127 := by rw [← hx]; exact Int.emod_lt_of_pos _ (by decide)
    have p2 := l0 (x + 32452843 * (c + 1)) (by omega) (Int.lt_trans (show _ < (2 ^ 150 : Int) by omega) (by decide +kernel))
    generalize hy : (x + 32452843 * (c + 1)) ^ 3 % 170141183460469231731687303715884105727 = y
    have q' : OkE (f_Ldraw [.cell p, .int k] (P ++ E)) fun d S => d = .int (y / 1048576 % k) ∧ S = P.set p (some (.lst [.int a, .int b, .int (c + 1)])) ++ E := by
      refine okE_fn rfl ?_
      unfold g_Ldraw
      simp [i0, i2, ha, gMod_of hk, q, j1, j2, gMul_of m1, gMul_of m2, gPow_of p1, gPow_of p2, gMod, hx, hy, gDiv_of (show divOk 1048576 = true by decide +kernel), hk]
    obtain ⟨_, _, q1, rfl, rfl⟩ := q'.eq
    exact ⟨_, _, q1, Int.emod_nonneg _ (by omega), Int.emod_lt_of_pos _ hk, set _ _ _ ⟨_, _, _, rfl, b0, b1, by omega, by omega⟩⟩
section
variable {n m p : Nat} {P E : Sto} {k : Int} {Q : D → Sto → Prop} {X : Er → Sto → Prop}
theorem draw_e (h : PS n (m + 1) P) (hp : p < n) (hk : 0 < k) (hk2 : k < 2 ^ 4000) (q : ∀ r P', 0 ≤ r → r < k → PS n m P' → Q (.int r) (P' ++ E)) : OkE (f_Ldraw [.cell p, .int k] (P ++ E)) Q X := by
  obtain ⟨r, P', e, r0, r1, h'⟩ := draw_at (E := E) h hp hk hk2
  exact okE_of e (q r P' r0 r1 h')
theorem draw0 (h : PS n (m + 1) P) (hp : p < n) (hk : 0 < k) (hk2 : k < 2 ^ 4000) (q : ∀ r P', 0 ≤ r → r < k → PS n m P' → Q (.int r) P') : OkE (f_Ldraw [.cell p, .int k] P) Q X := by
  obtain ⟨r, P', e, r0, r1, h'⟩ := draw_at (E := []) h hp hk hk2
  rw [List.append_nil, List.append_nil] at e
  exact okE_of e (q r P' r0 r1 h')
/-- a new pool -/
theorem pool_e {ns : List Int} {t : Nat} (h : PS n m P) (ht : t < 100) (hm : m ≤ 2 ^ 40) (hQ : ∀ P', PS (n + 1) m P' → Q (.cell n) P') : OkE (f_Lpool [.scr ns, .int (t : Int)] P) Q X := by
  refine okE_fn rfl ?_
  unfold g_Lpool
  have key : ∀ cell : Int, OkS (xRet (xCel (xLst (xCons (xCallB gMax2 (xCons (xC (.int 0)) (xCons (xBin gSub (xCallB gAbs (xCons (xVar 2) xNil)) (xBin gPow (xC (.int 10)) (xC (.int 18)))) xNil))) (xCons (xBin gAdd (xBin gMod (xCallB gInt (xCons (xVar 2) xNil)) (xC (.int 2305843009213693951))) (xBin gMul (xC (.int 7368787)) (xBin gAdd (xVar 1) (xC (.int 1))))) (xCons (xC (.int 0)) xNil))))) [some (.scr ns), some (.int (t : Int)), some (.int cell)] P) (ndF Q X) := by
    intro cell
    have b0 : 0 ≤ cell % 2305843009213693951 := Int.emod_nonneg _ (by decide)
    have b1 : cell % 2305843009213693951 < 2305843009213693951 := Int.emod_lt_of_pos _ (by decide)
    simp [gPow_of (show powOk 10 18 = true by decide +kernel), gMod, gMul_of (show mulOk 7368787 ((t : Int) + 1) = true from mulOk_s (by decide +kernel) (Nat.lt_trans (show ((t : Int) + 1).natAbs < 2 ^ 10 by omega) (by decide +kernel)))]
    rw [h.len]
    refine hQ _ (h.add ⟨_, _, _, rfl, by omega, by omega, by omega, by omega⟩)
  by_cases c : t < ns.length
  · have e : gIdx (.scr ns) (.int (t : Int)) P = some (.ok (.int ns[t]), P) := by
      unfold gIdx seqD
      dsimp only
      have : atI (ns.map D.int) (t : Int) = some (.int ns[t]) := by
        unfold atI ixN
        simp [c]
      rw [this]
    simp [c, e]
    simpa using key ns[t]
  · simp [c]
    simpa using key 0
end
/-- the law's own def, by its numbers -/
noncomputable def lawG (few turns : Int) (right : Fn) : ES := (xSeq (xFor (xRng1 (xCons (xCallB gMax2 (xCons (xC (.int 1)) (xCons (xCallB gMin2 (xCons (xC (.int few)) (xCons (xCallB gLen (xCons (xVar 0) xNil)) xNil))) xNil))) xNil)) (EV.gName 1) (xSeq (xSet 2 (xCall 2 f_Lpool (xCons (xVar 0) (xCons (xVar 1) xNil)))) (xFor (xRng1 (xCons (xC (.int turns)) xNil)) (EV.gName 3) (xIfS (xNot (xTs (xCall 1 right (xCons (xVar 2) xNil)))) (xRet (xC (.bl false))) xNx)))) (xRet (xC (.bl true))))
def invA (M : Nat) (ns : List Int) (k i : Nat) (ρ : Frm) (S : Sto) : Prop := PS i ((k - i) * M) S ∧ ∃ a b c, ρ = [some (.scr ns), a, b, c]
def invB (M : Nat) (ns : List Int) (i r t j : Nat) (ρ : Frm) (S : Sto) : Prop := PS (i + 1) (r + (t - j) * M) S ∧ ∃ c, ρ = [some (.scr ns), some (.int (i : Nat)), some (.cell i), c]
theorem law_bound {a b c : Nat} (h1 : a ≤ 64) (h2 : b ≤ 64) (h3 : c ≤ 1000000) : a * (b * c) ≤ 2 ^ 40 :=
  Nat.le_trans (Nat.mul_le_mul h1 (Nat.mul_le_mul h2 h3)) (by decide +kernel)
theorem law_gen {few turns : Nat} {right : Fn} (M : Nat) (hf : few ≤ 64) (ht : turns ≤ 64) (hM : M ≤ 1000000)
    (hr : ∀ n m p P, PS n (m + M) P → p < n → OkE (right [.cell p] P) fun d S => d = .bl true ∧ PS n m S) (ns : List Int) : ∃ S', fnOf 1 4 (lawG few turns right) [.scr ns] [] = some (.ok (.bl true), S') := by
  have q : OkE (fnOf 1 4 (lawG few turns right) [.scr ns] []) fun d S' => d = .bl true := by
    refine okE_fn rfl ?_
    unfold lawG
    simp
    generalize hk : (if (if (ns.length : Int) < few then (ns.length : Int) else few) > 1 then (if (ns.length : Int) < few then (ns.length : Int) else few) else 1) = k
    have k0 : 1 ≤ k ∧ k ≤ 64 := by
      split at hk <;> omega
    rw [rng1_of (by omega) (by omega)]
    simp
    refine okS_range (invA (turns * M) ns k.toNat) ⟨⟨rfl, fun _ h => (List.not_mem_nil h).elim⟩, _, _, _, rfl⟩ ?_ (fun _ _ _ => ⟨trivial, trivial⟩)
    rintro i hi ρ S ⟨hS, a, b, c, rfl⟩
    refine ⟨trivial, _, u_gName, ?_⟩
    simp only [okS_seq, u_set, okS_bndS, u_call, okE_bnd, u_cons, u_var, u_nil, okE_ok, List.set_cons_succ, List.set_cons_zero, List.getElem?_cons_zero, List.getElem?_cons_succ, List.length_cons, List.length_nil, if_true, Nat.reduceAdd, Int.zero_add, okS_nx, u_for, u_rng1, u_c]
    have mm : (k.toNat - i) * (turns * M) = (k.toNat - (i + 1)) * (turns * M) + turns * M := by
      have : k.toNat - i = (k.toNat - (i + 1)) + 1 := by omega
      rw [this, Nat.add_mul, Nat.one_mul]
    refine pool_e hS (by omega) (law_bound (by omega) ht hM) fun P hP => ?_
    rw [rng1_of (by omega) (by omega)]
    simp only [okE_ok, Int.toNat_natCast]
    refine okS_range (invB M ns i ((k.toNat - (i + 1)) * (turns * M)) turns) ⟨by rw [mm] at hP; exact hP, _, rfl⟩ ?_ ?_
    · rintro j hj ρ S ⟨hS, c, rfl⟩
      refine ⟨trivial, _, u_gName, ?_⟩
      simp only [okS_seq, u_set, okS_bndS, u_call, okE_bnd, u_cons, u_var, u_nil, okE_ok, List.set_cons_succ, List.set_cons_zero, List.getElem?_cons_zero, List.getElem?_cons_succ, List.length_cons, List.length_nil, if_true, Nat.reduceAdd, Int.zero_add, okS_nx, u_for, u_rng1, u_c, u_ifS, u_not, u_ts]
      have nn : (k.toNat - (i + 1)) * (turns * M) + (turns - j) * M = (k.toNat - (i + 1)) * (turns * M) + (turns - (j + 1)) * M + M := by
        have : turns - j = (turns - (j + 1)) + 1 := by omega
        rw [this, Nat.add_mul, Nat.one_mul, Nat.add_assoc]
      rw [nn] at hS
      refine (hr _ _ i S hS (by omega)).im fun d S2 z => ?_
      obtain ⟨rfl, z⟩ := z
      exact ⟨z, _, rfl⟩
    · rintro ρ S ⟨hS, c, rfl⟩
      rw [Nat.sub_self, Nat.zero_mul] at hS
      exact ⟨trivial, hS, _, _, _, rfl⟩
  obtain ⟨_, S', q1, rfl⟩ := q.eq
  exact ⟨S', q1⟩
/-- .. asked once for each pool -/
noncomputable def lawG1 (few : Int) (right : Fn) : ES := (xSeq (xFor (xRng1 (xCons (xCallB gMax2 (xCons (xC (.int 1)) (xCons (xCallB gMin2 (xCons (xC (.int few)) (xCons (xCallB gLen (xCons (xVar 0) xNil)) xNil))) xNil))) xNil)) (EV.gName 1) (xSeq (xSet 2 (xCall 2 f_Lpool (xCons (xVar 0) (xCons (xVar 1) xNil)))) (xIfS (xNot (xTs (xCall 1 right (xCons (xVar 2) xNil)))) (xRet (xC (.bl false))) xNx))) (xRet (xC (.bl true))))
theorem law_gen1 {few : Nat} {right : Fn} (M : Nat) (hf : few ≤ 64) (hM : M ≤ 1000000)
    (hr : ∀ n m p P, PS n (m + M) P → p < n → OkE (right [.cell p] P) fun d S => d = .bl true ∧ PS n m S) (ns : List Int) : ∃ S', fnOf 1 3 (lawG1 few right) [.scr ns] [] = some (.ok (.bl true), S') := by
  have q : OkE (fnOf 1 3 (lawG1 few right) [.scr ns] []) fun d S' => d = .bl true := by
    refine okE_fn rfl ?_
    unfold lawG1
    simp
    generalize hk : (if (if (ns.length : Int) < few then (ns.length : Int) else few) > 1 then (if (ns.length : Int) < few then (ns.length : Int) else few) else 1) = k
    have k0 : 1 ≤ k ∧ k ≤ 64 := by
      split at hk <;> omega
    rw [rng1_of (by omega) (by omega)]
    simp
    refine okS_range (fun i ρ S => PS i ((k.toNat - i) * M) S ∧ ∃ a b, ρ = [some (.scr ns), a, b]) ⟨⟨rfl, fun _ h => (List.not_mem_nil h).elim⟩, _, _, rfl⟩ ?_ (fun _ _ _ => ⟨trivial, trivial⟩)
    rintro i hi ρ S ⟨hS, a, b, rfl⟩
    refine ⟨trivial, _, u_gName, ?_⟩
    simp only [okS_seq, u_set, okS_bndS, u_call, okE_bnd, u_cons, u_var, u_nil, okE_ok, List.set_cons_succ, List.set_cons_zero, List.getElem?_cons_zero, List.getElem?_cons_succ, List.length_cons, List.length_nil, if_true, Nat.reduceAdd, Int.zero_add, okS_nx]
    have mm : (k.toNat - i) * M = (k.toNat - (i + 1)) * M + M := by
      have : k.toNat - i = (k.toNat - (i + 1)) + 1 := by omega
      rw [this, Nat.add_mul, Nat.one_mul]
    have bd : (k.toNat - i) * M ≤ 2 ^ 40 := by
      have := law_bound (a := k.toNat - i) (b := 1) (c := M) (by omega) (by decide) hM
      rwa [Nat.one_mul] at this
    refine pool_e hS (by omega) bd fun P hP => ?_
    rw [mm] at hP
    simp only [okS_seq, u_set, okS_bndS, u_call, okE_bnd, u_cons, u_var, u_nil, okE_ok, List.set_cons_succ, List.set_cons_zero, List.getElem?_cons_zero, List.getElem?_cons_succ, List.length_cons, List.length_nil, if_true, Nat.reduceAdd, Int.zero_add, okS_nx, u_ifS, u_not, u_ts]
    refine (hr _ _ i P hP (by omega)).im fun d S2 z => ?_
    obtain ⟨rfl, z⟩ := z
    exact ⟨z, _, _, rfl⟩
  obtain ⟨_, S', q1, rfl⟩ := q.eq
  exact ⟨S', q1⟩
end LW

/-! M2: books: their rules, their making, their conflict. -/
namespace LW
open PySem PySem.Spec PyProof.Rows L2 EV

def tri (b : Bd) : D := .tup [.int b.w, .int b.l, .int b.m]
def tris (bs : List Bd) : List D := bs.map tri
theorem tris_cons (b : Bd) (bs : List Bd) : tris (b :: bs) = tri b :: tris bs := rfl
theorem tris_len (bs : List Bd) : (tris bs).length = bs.length := List.length_map _
def bk (bs : List Bd) : D := .obj 0 (.tup (tris bs))
theorem low_tri (k : Nat) (b : Bd) : D.low k (tri b) = true := rfl
theorem low_tris (k : Nat) (bs : List Bd) : D.lowAll k (tris bs) = true := D.lowAll_iff.mpr fun x hx => by
  obtain ⟨b, _, rfl⟩ := List.mem_map.mp hx
  rfl
@[simp] theorem fld_bounds {bs : List Bd} {S : Sto} : gFld 0 0 tcs ats (bk bs) S = some (.ok (.tup (tris bs)), S) := rfl
theorem cls_bk {bs : List Bd} {S : Sto} : clsD tcs S (bk bs) = some 0 := rfl
theorem enum_tris (bs : List Bd) : enumD (tris bs) = bs.zipIdx.map fun p => .tup [.int (p.2 : Nat), tri p.1] := by
  unfold enumD tris
  rw [List.zipIdx_map, List.map_map]
  rfl
/-- numbers that are small -/
abbrev Sm (i : Int) : Prop := i.natAbs < 2 ^ 1000
abbrev SmB (b : Bd) : Prop := Sm b.w ∧ Sm b.l ∧ Sm b.m
theorem Sm.mul {i j : Int} (h : Sm i) (h' : Sm j) : mulOk i j = true :=
  mulOk_s (Nat.lt_of_lt_of_le h (Nat.pow_le_pow_right (by decide) (by decide))) (Nat.lt_of_lt_of_le h' (Nat.pow_le_pow_right (by decide) (by decide)))
theorem Sm.gm {i j : Int} (h : Sm i) (h' : Sm j) (S : Sto) : gMul (.int i) (.int j) S = some (.ok (.int (i * j)), S) := gMul_of (h.mul h')
theorem Sm.gd {i j : Int} (h : Sm j) (h0 : 0 < j) (S : Sto) : gDiv (.int i) (.int j) S = some (.ok (.int (i / j)), S) := gDiv_of (divOk_s h0 (by
  have : j.natAbs < 2 ^ 4000 := Nat.lt_of_lt_of_le h (Nat.pow_le_pow_right (by decide) (by decide))
  omega))
theorem Sm.of {i : Int} {n : Nat} (h : i.natAbs ≤ n) (hn : n < 2 ^ 1000) : Sm i := Nat.lt_of_le_of_lt h hn
theorem abs_mul_le {i j : Int} {a b : Nat} (h : i.natAbs ≤ a) (h' : j.natAbs ≤ b) : (i * j).natAbs ≤ a * b := by
  rw [Int.natAbs_mul]; exact Nat.mul_le_mul h h'
def okR (b : Bd) : Bool := decide (1 ≤ b.w) && decide (b.l ≤ b.m)
theorem is_rule_e (b : Bd) (S : Sto) : f_is_rule [tri b] S = some (.ok (.bl (okR b)), S) := by
  have q : OkE (f_is_rule [tri b] S) fun d S' => d = .bl (okR b) ∧ S' = S := by
    refine okE_fn rfl ?_
    unfold g_is_rule tri okR
    by_cases h : 1 ≤ b.w <;> simp [h]
  obtain ⟨_, _, q1, rfl, rfl⟩ := q.eq
  exact q1
theorem made_e {lo hi : Int} {rs : List Bd} {S : Sto} (h : lo ≤ hi) (hr : ∀ b, b ∈ rs → okR b = true) (hl : rs.length < 10000) (hS : S.all (lowS S.length) = true) :
    mkO 0 0 f_Book_init conv_Book [.int lo, .int hi, .lst (tris rs)] S = some (.ok (bk (⟨1, lo, hi⟩ :: rs)), S) := by
  refine mkO_of (fs := [(0, .tup (tris (⟨1, lo, hi⟩ :: rs))), (1, .non), (2, .non)]) ?_ hS ?_ ?_
  · have q : OkE (f_Book_init [.cell S.length, .int lo, .int hi, .lst (tris rs)] (S ++ [some (.ins 0 [])])) fun d S' => d = .non ∧ S' = S ++ [some (.ins 0 [(0, .tup (tris (⟨1, lo, hi⟩ :: rs))), (1, .non), (2, .non)])] := by
      refine okE_fn rfl ?_
      unfold g_Book_init
      simp [show ¬ hi < lo by omega, enum_tris]
      refine okS_for (fun ds ρ S' => (∀ d, d ∈ ds → ∃ i b, d = .tup [.int i, tri b] ∧ b ∈ rs) ∧ S' = S ++ [some (.ins 0 [])] ∧ ∃ x y, ρ = [some (.cell S.length), some (.int lo), some (.int hi), some (.lst (tris rs)), x, y]) _ _ _ ?_ ?_ ?_
      · refine ⟨fun d hd => ?_, rfl, none, none, rfl⟩
        obtain ⟨p, hp, rfl⟩ := List.mem_map.mp hd
        exact ⟨_, p.1, rfl, by
          have := List.mem_map_of_mem (f := Prod.fst) hp
          rwa [List.zipIdx_map_fst] at this⟩
      · rintro d ds ρ S' ⟨h1, rfl, x, y, rfl⟩
        obtain ⟨i, b, rfl, hb⟩ := h1 d (List.mem_cons_self ..)
        refine ⟨trivial, _, by simp; rfl, ?_⟩
        simp [is_rule_e, hr b hb]
        exact fun d hd => h1 d (List.mem_cons_of_mem _ hd)
      · rintro ρ S' ⟨_, rfl, x, y, rfl⟩
        refine ⟨trivial, ?_⟩
        have hl' : rs.length + 1 ≤ cap := by unfold cap; omega
        simp [chkT, tris_len, hl', putN, tri, tris_cons]
    obtain ⟨_, _, q1, rfl, rfl⟩ := q.eq
    exact q1
  · simp [D.low, low_tris]
  · have : D.low 0 (.tup (tris (⟨1, lo, hi⟩ :: rs))) = true := low_tris 0 _
    unfold conv_Book
    simp [this, bk]
/-- the first pair of bounds that contradict -/
def confI (bs : List Bd) (p : Bd × Nat) : Option D := bs.zipIdx.findSome? fun q => if q.1.m * p.1.w < p.1.l * q.1.w then some (.tup [.int (p.2 : Nat), .int (q.2 : Nat)]) else none
def confl (bs : List Bd) : Option D := bs.zipIdx.findSome? (confI bs)
theorem mem_zip {bs : List Bd} {p : Bd × Nat} (h : p ∈ bs.zipIdx) : p.1 ∈ bs := by
  have := List.mem_map_of_mem (f := Prod.fst) h
  rwa [List.zipIdx_map_fst] at this
theorem zip_mem {bs : List Bd} {b : Bd} (h : b ∈ bs) : ∃ i, (b, i) ∈ bs.zipIdx := by
  rw [← List.zipIdx_map_fst 0 bs] at h
  obtain ⟨p, hp, rfl⟩ := List.mem_map.mp h
  exact ⟨p.2, hp⟩
theorem confl_none {bs : List Bd} : confl bs = none ↔ ∀ a, a ∈ bs → ∀ b, b ∈ bs → a.l * b.w ≤ b.m * a.w := by
  unfold confl confI
  rw [List.findSome?_eq_none_iff]
  constructor
  · intro h a ha b hb
    obtain ⟨i, hi⟩ := zip_mem ha
    obtain ⟨j, hj⟩ := zip_mem hb
    have q := List.findSome?_eq_none_iff.mp (h _ hi) _ hj
    by_cases c : b.m * a.w < a.l * b.w
    · rw [if_pos c] at q; cases q
    · omega
  · intro h p hp
    rw [List.findSome?_eq_none_iff]
    intro q hq
    exact if_neg (by have := h _ (mem_zip hp) _ (mem_zip hq); omega)
theorem confl_add {bs : List Bd} {o : Bd} (h : confl bs = none) (ho : ∀ b, b ∈ bs → o.l * b.w ≤ b.m * o.w ∧ b.l * o.w ≤ o.m * b.w) (oo : o.l * o.w ≤ o.m * o.w) : confl (bs ++ [o]) = none := by
  rw [confl_none] at h ⊢
  intro a ha b hb
  rcases List.mem_append.mp ha with x | x
  · rcases List.mem_append.mp hb with y | y
    · exact h a x b y
    · rw [List.mem_singleton.mp y]; exact (ho a x).2
  · rw [List.mem_singleton.mp x]
    rcases List.mem_append.mp hb with y | y
    · exact (ho b y).1
    · rw [List.mem_singleton.mp y]; exact oo
theorem confl_some {bs : List Bd} {a b : Bd} (ha : a ∈ bs) (hb : b ∈ bs) (h : b.m * a.w < a.l * b.w) : (confl bs).isNone = false := by
  cases e : confl bs with
  | none => exact absurd (confl_none.mp e a ha b hb) (by omega)
  | some _ => rfl
theorem conflict_e {bs : List Bd} {S : Sto} (hb : ∀ b, b ∈ bs → SmB b) : f_Book_conflict [bk bs] S = some (.ok ((confl bs).getD .non), S) := by
  have q : OkE (f_Book_conflict [bk bs] S) fun d S' => d = (confl bs).getD .non ∧ S' = S := by
    refine okE_fn rfl ?_
    unfold g_Book_conflict
    simp only [okS_seq, okS_bndS, okE_bnd, u_for, u_enum, u_cons, u_nil, u_un, u_var, List.map_cons, List.map_nil, List.cons_append, List.nil_append, List.getElem?_cons_zero, fld_bounds, okE_ok, enI_tup, enum_tris]
    have key := okS_find (g := fun _ => True) (gs := gTupT 2 (gConsT (EV.gName 1) (gConsT (gTupT 3 (gConsT (EV.gName 2) (gConsT (EV.gName 3) (gConsT (EV.gName 4) gNilT)))) gNilT)))
      (bs := xFor (xEnum (xCons (xUn (gFld 0 0 tcs ats) (xVar 0)) xNil)) (gTupT 2 (gConsT (EV.gName 5) (gConsT (gTupT 3 (gConsT (EV.gName 6) (gConsT (EV.gName 7) (gConsT (EV.gName 8) gNilT)))) gNilT))) (xIfS (xCmp (gCmp fun i j => decide (j < i)) (xBin gMul (xVar 3) (xVar 6)) (xBin gMul (xVar 8) (xVar 2))) (xRet (xTup (xCons (xVar 1) (xCons (xVar 5) xNil)))) xNx))
      (fun p : Bd × Nat => D.tup [.int (p.2 : Nat), tri p.1]) (confI bs) (fun p => p.1 ∈ bs) (fun ρ S' => S' = S ∧ ∃ a1 a2 a3 a4 a5 a6 a7 a8, ρ = [some (bk bs), a1, a2, a3, a4, a5, a6, a7, a8]) (R := fun S' => S' = S) ?_ (fun _ _ _ => trivial)
      bs.zipIdx [some (bk bs), none, none, none, none, none, none, none, none] S (fun a ha => mem_zip ha) ⟨rfl, _, _, _, _, _, _, _, _, rfl⟩
    · refine key.imp (fun ρ S' z => ?_) (fun d S' z => ?_) (fun _ _ z => z) (fun _ _ z => z) (fun _ _ _ z => z)
      · obtain ⟨z1, rfl, _⟩ := z
        have e : confl bs = none := z1
        simp [e]
      · obtain ⟨z1, rfl⟩ := z
        have e : confl bs = some d := z1
        simp [e]
    · rintro p ρ S' hp ⟨rfl, a1, a2, a3, a4, a5, a6, a7, a8, rfl⟩
      refine ⟨trivial, _, by simp [tri]; rfl, ?_⟩
      simp only [okS_bndS, okE_bnd, u_for, u_enum, u_cons, u_nil, u_un, u_var, List.getElem?_cons_zero, fld_bounds, okE_ok, enI_tup, enum_tris]
      have key := okS_find (g := fun _ => True) (gs := gTupT 2 (gConsT (EV.gName 5) (gConsT (gTupT 3 (gConsT (EV.gName 6) (gConsT (EV.gName 7) (gConsT (EV.gName 8) gNilT)))) gNilT)))
        (bs := xIfS (xCmp (gCmp fun i j => decide (j < i)) (xBin gMul (xVar 3) (xVar 6)) (xBin gMul (xVar 8) (xVar 2))) (xRet (xTup (xCons (xVar 1) (xCons (xVar 5) xNil)))) xNx)
        (fun p : Bd × Nat => D.tup [.int (p.2 : Nat), tri p.1]) (fun q => if q.1.m * p.1.w < p.1.l * q.1.w then some (.tup [.int (p.2 : Nat), .int (q.2 : Nat)]) else none) (fun p => p.1 ∈ bs)
        (fun ρ S'' => S'' = S' ∧ ∃ a5 a6 a7 a8, ρ = [some (bk bs), some (.int (p.2 : Nat)), some (.int p.1.w), some (.int p.1.l), some (.int p.1.m), a5, a6, a7, a8]) (R := fun S'' => S'' = S') ?_ (fun _ _ _ => trivial)
        bs.zipIdx _ S' (fun a ha => mem_zip ha) ⟨rfl, a5, a6, a7, a8, rfl⟩
      · refine key.imp (fun ρ S'' z => ?_) (fun d S' z => z) (fun _ _ z => z) (fun _ _ z => z) (fun _ _ _ z => z)
        obtain ⟨z1, rfl, b5, b6, b7, b8, rfl⟩ := z
        exact ⟨z1, rfl, _, _, _, _, _, _, _, _, rfl⟩
      · rintro q ρ S'' hq ⟨rfl, b5, b6, b7, b8, rfl⟩
        refine ⟨trivial, _, by simp [tri]; rfl, ?_⟩
        have m1 := (hb _ hp).2.1.gm (hb _ hq).1
        have m2 := (hb _ hq).2.2.gm (hb _ hp).1
        by_cases c : q.1.m * p.1.w < p.1.l * q.1.w
        · simp [m1, m2, c]
        · simp [m1, m2, c]
  obtain ⟨_, _, q1, rfl, rfl⟩ := q.eq
  exact q1
theorem check_rows_e {bs : List Bd} {S : Sto} (hb : ∀ b, b ∈ bs → SmB b) (h : confl bs = none) : f_check_rows [bk bs] S = some (.ok .non, S) := by
  have q : OkE (f_check_rows [bk bs] S) fun d S' => d = .non ∧ S' = S := by
    refine okE_fn rfl ?_
    unfold g_check_rows
    simp [cls_bk, conflict_e hb, h]
  obtain ⟨_, _, q1, rfl, rfl⟩ := q.eq
  exact q1
def kdD (lo hi : Int) (rs : List Bd) : D := .tup [.int lo, .int hi, .lst (tris rs)]
theorem Lbounds_e {lo hi : Int} {rs : List Bd} {S : Sto} (hl : rs.length ≤ 1000) : f_Lbounds [kdD lo hi rs] S = some (.ok (.lst (tris (⟨1, lo, hi⟩ :: rs))), S) := by
  have q : OkE (f_Lbounds [kdD lo hi rs] S) fun d S' => d = .lst (tris (⟨1, lo, hi⟩ :: rs)) ∧ S' = S := by
    refine okE_fn rfl ?_
    unfold g_Lbounds kdD
    simp [tris_len, show 1 + rs.length ≤ 16000000 by omega]
    rfl
  obtain ⟨_, _, q1, rfl, rfl⟩ := q.eq
  exact q1
end LW

/-! M3: shares. -/
namespace LW
open PySem PySem.Spec PyProof.Rows L2 EV

def frac (t b : Int) : D := .tup [.int (t / (Int.gcd t b : Int)), .int (b / (Int.gcd t b : Int))]
theorem gcd_step {a b : Int} (ha : 0 ≤ a) (hb : 0 ≤ b) : Int.gcd b (a % b) = Int.gcd a b := by
  obtain ⟨m, rfl⟩ := Int.eq_ofNat_of_zero_le ha
  obtain ⟨n, rfl⟩ := Int.eq_ofNat_of_zero_le hb
  rw [← Int.natCast_emod]
  show Nat.gcd n (m % n) = Nat.gcd m n
  rw [Nat.gcd_comm m n, Nat.gcd_rec n m, Nat.gcd_comm]
theorem lowest_e {t b : Int} {S : Sto} (hb : 0 < b) (sb : Sm b) : f_in_lowest_terms [.int t, .int b] S = some (.ok (frac t b), S) := by
  have q : OkE (f_in_lowest_terms [.int t, .int b] S) fun d S' => d = frac t b ∧ S' = S := by
    refine okE_fn rfl ?_
    unfold g_in_lowest_terms
    have a : ∀ (x y : Int) (ρ : Frm), ρ = [some (.int t), some (.int b), some (.int x), some (.int y)] → 0 ≤ x → 0 ≤ y → (0 < x ∨ 0 < y) → Int.gcd x y = Int.gcd t b → OkS (xWhile (fun ρ _ => slotN 3 ρ + 1) (xCmp (gEq true) (xVar 3) (xC (.int 0))) (xPar 2 3 (xCons (xVar 3) (xCons (xBin gMod (xVar 2) (xVar 3)) xNil))) ρ S)
        { nx := fun ρ S' => S' = S ∧ ∃ x : Int, ρ = [some (.int t), some (.int b), some (.int x), some (.int 0)] ∧ 0 < x ∧ x = (Int.gcd t b : Int) } := by
      intro x y ρ hρ x0 y0 xy g
      unfold xWhile
      refine okS_while (fun ρ S' => S' = S ∧ ∃ x y : Int, ρ = [some (.int t), some (.int b), some (.int x), some (.int y)] ∧ 0 ≤ x ∧ 0 ≤ y ∧ (0 < x ∨ 0 < y) ∧ Int.gcd x y = Int.gcd t b) (fun ρ S' => slotN 3 ρ) ?_ _ _ _ (Nat.lt_succ_self _) ⟨rfl, x, y, hρ, x0, y0, xy, g⟩
      rintro ρ S' ⟨rfl, x, y, rfl, x0, y0, xy, g⟩
      by_cases c : y = 0
      · subst c
        simp
        refine ⟨by omega, ?_⟩
        rw [← g, Int.gcd_zero_right]; omega
      · have y1 : 0 < y := by omega
        simp [c, gMod_of y1]
        have h1 := Int.emod_nonneg x c
        have h2 := Int.emod_lt_of_pos x y1
        refine ⟨⟨_, _, ⟨rfl, rfl⟩, y0, h1, .inl y1, by rw [gcd_step x0 y0, g]⟩, ?_⟩
        simp [slotN]
        omega
    have ha : Int.gcd (if t < 0 then -t else t) b = Int.gcd t b := by
      split
      · rw [Int.neg_gcd]
      · rfl
    have ha0 : 0 ≤ (if t < 0 then -t else t) := by split <;> omega
    simp
    refine (a _ b _ rfl ha0 (by omega) (.inr hb) ha).imp (fun ρ S' z => ?_) (fun _ _ z => z.elim) (fun _ _ z => z.elim) (fun _ _ z => z.elim) (fun _ _ _ z => z.elim)
    obtain ⟨rfl, x, rfl, x0, hx⟩ := z
    have hl : x ≤ b := by rw [hx]; exact Int.le_of_dvd hb (Int.gcd_dvd_right ..)
    have sx : Sm x := Nat.lt_of_le_of_lt (by omega) sb
    simp [sx.gd x0, frac, ← hx]
  obtain ⟨_, _, q1, rfl, rfl⟩ := q.eq
  exact q1
/-- the strictest bounds -/
def stepL (a b : Bd) : Bd := if a.l * b.w < b.l * a.w then b else a
def stepU (a b : Bd) : Bd := if b.m * a.w < a.m * b.w then b else a
def invSh (b0 : Bd) (rs : List Bd) (S : Sto) (ds : List D) (ρ : Frm) (S' : Sto) : Prop := S' = S ∧ ∃ r L U x, ds = tris r ∧ (∀ b, b ∈ r → b ∈ b0 :: rs) ∧ L ∈ b0 :: rs ∧ U ∈ b0 :: rs ∧
  r.foldl stepL L = (b0 :: rs).foldl stepL b0 ∧ r.foldl stepU U = (b0 :: rs).foldl stepU b0 ∧ ρ = [some (bk (b0 :: rs)), some (tri L), some (tri U), x]
theorem shares_e {b0 : Bd} {rs : List Bd} {S : Sto} (hb : ∀ b, b ∈ b0 :: rs → SmB b ∧ 0 < b.w) (h : confl (b0 :: rs) = none) :
    ∃ L U, (b0 :: rs).foldl stepL b0 = L ∧ (b0 :: rs).foldl stepU b0 = U ∧ L ∈ b0 :: rs ∧ U ∈ b0 :: rs ∧ f_shares [bk (b0 :: rs)] S = some (.ok (.tup [frac L.l L.w, frac U.m U.w]), S) := by
  have q : OkE (f_shares [bk (b0 :: rs)] S) fun d S' => ∃ L U, (b0 :: rs).foldl stepL b0 = L ∧ (b0 :: rs).foldl stepU b0 = U ∧ L ∈ b0 :: rs ∧ U ∈ b0 :: rs ∧ d = .tup [frac L.l L.w, frac U.m U.w] ∧ S' = S := by
    refine okE_fn rfl ?_
    unfold g_shares
    simp [check_rows_e (S := S) (fun b z => (hb b z).1) h, tris_cons]
    refine okS_for (invSh b0 rs S) _ _ _ ?_ ?_ ?_
    · exact ⟨rfl, b0 :: rs, b0, b0, _, rfl, fun _ z => z, by simp, by simp, rfl, rfl, rfl⟩
    · rintro d ds ρ S' ⟨rfl, r, L, U, x, e, hr, hL, hU, fL, fU, rfl⟩
      match r, e with
      | b :: r, e =>
        cases e
        refine ⟨trivial, _, by simp; rfl, ?_⟩
        have sb := hb b (hr b (List.mem_cons_self ..))
        have sL := hb L hL
        have sU := hb U hU
        have hr' : ∀ c, c ∈ r → c ∈ b0 :: rs := fun c hc => hr c (List.mem_cons_of_mem _ hc)
        rw [List.foldl_cons] at fL fU
        have key : ∀ (L' U' : Bd), L' = stepL L b → U' = stepU U b → invSh b0 rs S' (List.map tri r) [some (bk (b0 :: rs)), some (tri L'), some (tri U'), some (tri b)] S' := by
          intro L' U' e1 e2
          refine ⟨rfl, r, L', U', some (tri b), rfl, hr', ?_, ?_, by rw [e1]; exact fL, by rw [e2]; exact fU, rfl⟩
          · rw [e1]; unfold stepL; split
            · exact hr b (List.mem_cons_self ..)
            · exact hL
          · rw [e2]; unfold stepU; split
            · exact hr b (List.mem_cons_self ..)
            · exact hU
        have m1 := sb.1.2.1.gm sL.1.1 S'
        have m2 := sL.1.2.1.gm sb.1.1 S'
        have m3 := sb.1.2.2.gm sU.1.1 S'
        have m4 := sU.1.2.2.gm sb.1.1 S'
        unfold tri at key ⊢
        by_cases c1 : L.l * b.w < b.l * L.w
        · by_cases c2 : b.m * U.w < U.m * b.w
          · have := key b b (by simp [stepL, c1]) (by simp [stepU, c2])
            simpa [m1, m2, m3, m4, c1, c2] using this
          · have := key b U (by simp [stepL, c1]) (by simp [stepU, c2])
            simpa [m1, m2, m3, m4, c1, c2] using this
        · by_cases c2 : b.m * U.w < U.m * b.w
          · have := key L b (by simp [stepL, c1]) (by simp [stepU, c2])
            simpa [m1, m2, m3, m4, c1, c2] using this
          · have := key L U (by simp [stepL, c1]) (by simp [stepU, c2])
            simpa [m1, m2, m3, m4, c1, c2] using this
    · rintro ρ S' ⟨rfl, r, L, U, x, e, hr, hL, hU, fL, fU, rfl⟩
      match r, e with
      | [], _ =>
        refine ⟨trivial, ?_⟩
        have sL := hb L hL
        have sU := hb U hU
        rw [List.foldl_nil] at fL fU
        have lL := lowest_e (S := S') (t := L.l) sL.2 sL.1.1
        have lU := lowest_e (S := S') (t := U.m) sU.2 sU.1.1
        have fin : ∃ L₁ U₁, (b0 :: rs).foldl stepL b0 = L₁ ∧ (b0 :: rs).foldl stepU b0 = U₁ ∧ L₁ ∈ b0 :: rs ∧ U₁ ∈ b0 :: rs ∧ D.tup [frac L.l L.w, frac U.m U.w] = .tup [frac L₁.l L₁.w, frac U₁.m U₁.w] ∧ S' = S' := ⟨L, U, fL.symm, fU.symm, hL, hU, rfl, rfl⟩
        simpa [tri, lL, lU] using fin
  obtain ⟨_, _, q1, L, U, e1, e2, e3, e4, rfl, rfl⟩ := q.eq
  exact ⟨L, U, e1, e2, e3, e4, q1⟩
/-- books are equal -/
theorem num_tris (bs : List Bd) (h : ∀ b, b ∈ bs → SmB b) : num 2 (.tup (tris bs)) := by
  refine ⟨by decide, nums_iff.mpr fun x hx => ?_⟩
  obtain ⟨b, hb, rfl⟩ := List.mem_map.mp hx
  have := h b hb
  exact ⟨by decide, this.1, this.2.1, this.2.2, trivial⟩
theorem eq_refl_e {bs : List Bd} {S : Sto} (h : ∀ b, b ∈ bs → SmB b) : gOwnEq tcs 0 f_Book_eq (bk bs) (bk bs) S = some (.ok true, S) := by
  have q : OkE (f_Book_eq [bk bs, bk bs] S) fun d S' => d = .bl true ∧ S' = S := by
    refine okE_fn rfl ?_
    unfold g_Book_eq
    simp [cls_bk, gEq_refl (num_tris bs h) (by decide)]
  obtain ⟨_, _, q1, rfl, rfl⟩ := q.eq
  unfold gOwnEq
  rw [if_pos ⟨rfl, rfl⟩, q1]
theorem Lmade_e {lo hi : Int} {rs : List Bd} {S : Sto} (h : lo ≤ hi) (hr : ∀ b, b ∈ rs → okR b = true) (hl : rs.length < 10000) (hS : S.all (lowS S.length) = true) :
    f_Lmade [.tup [.int lo, .int hi, .lst (tris rs)]] S = some (.ok (bk (⟨1, lo, hi⟩ :: rs)), S) := by
  have q : OkE (f_Lmade [.tup [.int lo, .int hi, .lst (tris rs)]] S) fun d S' => d = bk (⟨1, lo, hi⟩ :: rs) ∧ S' = S := by
    refine okE_fn rfl ?_
    unfold g_Lmade
    simp [made_e h hr hl hS]
  obtain ⟨_, _, q1, rfl, rfl⟩ := q.eq
  exact q1
end LW

/-! M4: kinds. -/
namespace LW
open PySem PySem.Spec PyProof.Rows L2 EV

structure Kd (wide often : Int) (lo hi : Int) (rs : List Bd) : Prop where
  lo0 : -20 ≤ lo
  lh : lo ≤ hi
  hi0 : hi ≤ 20
  ln : rs.length ≤ often
  ex : ∃ u v : Int, 0 < u ∧ u ≤ 12 ∧ lo * u ≤ v ∧ v ≤ hi * u ∧ ∀ b, b ∈ rs → 1 ≤ b.w ∧ b.w ≤ wide ∧ b.l * u ≤ b.w * v ∧ b.w * v ≤ b.m * u ∧ -1000 ≤ b.l ∧ b.m ≤ 1000
/-- lines that a share keeps -/
def KdL (u v wide : Int) (b : Bd) : Prop := 1 ≤ b.w ∧ b.w ≤ wide ∧ b.l * u ≤ b.w * v ∧ b.w * v ≤ b.m * u ∧ -1000 ≤ b.l ∧ b.m ≤ 1000
def invKd (n m p : Nat) (wide often lo hi u v : Int) (ds : List D) (ρ : Frm) (S : Sto) : Prop := ∃ P rs a b c d, S = P ++ [some (.lst (tris rs))] ∧ PS n (m + 8 * ds.length) P ∧ (rs.length + ds.length : Nat) ≤ often ∧ (∀ b, b ∈ rs → KdL u v wide b) ∧
  ρ = [some (.cell p), some (.int wide), some (.int often), some (.int lo), some (.int hi), some (.int u), some (.cell n), some (.int v), a, b, c, d]
theorem kd_few {w u v k x : Int} (hu : 0 < u) (hu2 : u ≤ 12) (w0 : 0 < w) (w1 : w ≤ 40) (h1 : -20 * u ≤ v) (h2 : v ≤ 20 * u) (hx : 0 ≤ x) : (if w * v / u - x > -1000 then w * v / u - x else -1000) * u ≤ w * v := by
  have e1 := Int.ediv_mul_le (w * v) (show u ≠ 0 by omega)
  have e2 : x * u ≥ 0 := Int.mul_nonneg hx (by omega)
  have e3 : w * (-20 * u) ≤ w * v := Int.mul_le_mul_of_nonneg_left h1 (by omega)
  have e4 : w * u ≤ 40 * u := Int.mul_le_mul_of_nonneg_right w1 (by omega)
  have e5 : w * (-20 * u) = -20 * (w * u) := by rw [Int.mul_left_comm]
  split
  · rw [Int.sub_mul]; omega
  · omega
theorem kd_more {w u v k y : Int} (hu : 0 < u) (hu2 : u ≤ 12) (w0 : 0 < w) (w1 : w ≤ 40) (h1 : -20 * u ≤ v) (h2 : v ≤ 20 * u) (hy : 0 ≤ y) : w * v ≤ (if -(-(w * v) / u) + y < 1000 then -(-(w * v) / u) + y else 1000) * u := by
  have e1 := Int.ediv_mul_le (-(w * v)) (show u ≠ 0 by omega)
  have e2 : y * u ≥ 0 := Int.mul_nonneg hy (by omega)
  have e3 : w * v ≤ w * (20 * u) := Int.mul_le_mul_of_nonneg_left h2 (by omega)
  have e4 : w * u ≤ 40 * u := Int.mul_le_mul_of_nonneg_right w1 (by omega)
  have e5 : w * (20 * u) = 20 * (w * u) := by rw [Int.mul_left_comm]
  split
  · rw [Int.add_mul, Int.neg_mul]; omega
  · omega
theorem kind_e {n m p : Nat} {P : Sto} {wide often : Int} {Q : D → Sto → Prop} {X : Er → Sto → Prop} (h : PS n (m + 200) P) (hp : p < n) (w0 : 0 < wide) (w1 : wide ≤ 40) (o0 : 0 ≤ often) (o1 : often ≤ 20)
    (q : ∀ lo hi rs P', PS n m P' → Kd wide often lo hi rs → Q (.tup [.int lo, .int hi, .lst (tris rs)]) P') : OkE (f_Lkind [.cell p, .int wide, .int often] P) Q X := by
  refine okE_cut (okE_fn rfl ?_)
  unfold g_Lkind
  try simp
  refine draw0 h hp (by decide) (by decide +kernel) fun r1 P1 r10 r11 h1 => ?_
  try simp
  refine draw0 h1 hp (by decide) (by decide +kernel) fun r2 P2 r20 r21 h2 => ?_
  try simp
  refine draw0 h2 hp (by decide) (by decide +kernel) fun r3 P3 r30 r31 h3 => ?_
  refine pick4 r30 r31 fun lo hlo => ?_
  refine draw0 h3 hp (by decide) (by decide +kernel) fun r4 P4 r40 r41 h4 => ?_
  try simp
  refine draw0 h4 hp (by decide) (by decide +kernel) fun r5 P5 r50 r51 h5 => ?_
  try simp
  refine draw0 h5 hp (by decide) (by decide +kernel) fun r6 P6 r60 r61 h6 => ?_
  refine pick4 r60 r61 fun x hx => ?_
  try simp
  generalize hhi : (if lo + x < 20 then lo + x else 20) = hi
  have hi1 : lo ≤ hi ∧ hi ≤ 20 ∧ -20 ≤ lo := by
    have : 0 ≤ x := by omega
    have : lo ≤ 20 := by omega
    split at hhi <;> omega
  obtain ⟨hi1, hi2, lo0⟩ := hi1
  refine draw0 h6 hp (by decide) (by decide +kernel) fun r7 P7 r70 r71 h7 => ?_
  have lo2 : lo ≤ 20 := by omega
  simp [Sm.gm (Sm.of (n := 20) (i := lo) (by omega) (by decide +kernel)) (Sm.of (n := 12) (i := 1 + r7) (by omega) (by decide +kernel)), Sm.gm (Sm.of (n := 40) (i := hi - lo) (by omega) (by decide +kernel)) (Sm.of (n := 12) (i := 1 + r7) (by omega) (by decide +kernel)), h7.len]
  generalize hu : 1 + r7 = u
  have u0 : 0 < u := by omega
  have u1 : u ≤ 12 := by omega
  have wd0 : 0 ≤ (hi - lo) * u := Int.mul_nonneg (by omega) (by omega)
  have wd1 : (hi - lo) * u ≤ 480 := by
    have := abs_mul_le (i := hi - lo) (j := u) (a := 40) (b := 12) (by omega) (by omega)
    omega
  refine draw_e h7 hp (by omega) (Int.lt_trans (show _ < (1000 : Int) by omega) (by decide +kernel)) fun r8 P8 r80 r81 h8 => ?_
  try simp
  generalize hv : lo * u + r8 = v
  have v0 : lo * u ≤ v := by omega
  have v1 : v ≤ hi * u := by rw [Int.sub_mul] at r81; omega
  refine draw_e h8 hp (by omega) (Int.lt_trans (show _ < (1000 : Int) by omega) (by decide +kernel)) fun r9 P9 r90 r91 h9 => ?_
  rw [rng1_of (by omega) (by omega)]
  try simp
  have lu1 : -20 * u ≤ v := Int.le_trans (Int.mul_le_mul_of_nonneg_right lo0 (by omega)) v0
  have hu1 : v ≤ 20 * u := Int.le_trans v1 (Int.mul_le_mul_of_nonneg_right hi2 (by omega))
  have sv : Sm v := Sm.of (n := 240) (by omega) (by decide +kernel)
  have su : Sm u := Sm.of (n := 12) (by omega) (by decide +kernel)
  refine okS_for (invKd n (m + 1) p wide often lo hi u v) _ _ _ ?_ ?_ ?_
  · refine ⟨P9, [], _, _, _, _, rfl, h9.mono ?_, ?_, fun b hb => (List.not_mem_nil hb).elim, rfl⟩
    · simp [rangeD]; omega
    · simp [rangeD]; omega
  · rintro d ds ρ S ⟨P, rs, a, b, c, d', rfl, hP, hl, hr, rfl⟩
    refine ⟨trivial, _, by simp; rfl, ?_⟩
    have hP' : PS n (m + 1 + 8 * ds.length + 8) P := hP.mono (by simp; omega)
    try simp
    refine draw_e hP' hp (by omega) (Int.lt_trans (show _ < (1000 : Int) by omega) (by decide +kernel)) fun s1 Q1 s10 s11 g1 => ?_
    generalize hw : 1 + s1 = w
    simp [hw]
    have w0' : 0 < w := by omega
    have w1' : w ≤ 40 := by omega
    have sw : Sm w := Sm.of (n := 40) (by omega) (by decide +kernel)
    have swv : Sm (w * v) := Sm.of (abs_mul_le (a := 40) (b := 240) (by omega) (by omega)) (by decide +kernel)
    try simp [sw.gm sv, su.gd u0]
    refine draw_e g1 hp (by decide) (by decide +kernel) fun s2 Q2 s20 s21 g2 => ?_
    try simp [Sm.gm (Sm.of (n := 20) (i := 20) (by omega) (by decide +kernel)) sw]
    refine draw_e g2 hp (by omega) (Int.lt_trans (show _ < (1000 : Int) by omega) (by decide +kernel)) fun s3 Q3 s30 s31 g3 => ?_
    try simp
    refine draw_e g3 hp (by decide) (by decide +kernel) fun s4 Q4 s40 s41 g4 => ?_
    refine pick4 s40 s41 fun x hx => ?_
    have x0 : 0 ≤ x := by omega
    try simp [sw.gm sv, su.gd u0]
    refine draw_e g4 hp (by decide) (by decide +kernel) fun s5 Q5 s50 s51 g5 => ?_
    try simp [Sm.gm (Sm.of (n := 20) (i := 20) (by omega) (by decide +kernel)) sw]
    refine draw_e g5 hp (by omega) (Int.lt_trans (show _ < (1000 : Int) by omega) (by decide +kernel)) fun s6 Q6 s60 s61 g6 => ?_
    try simp
    refine draw_e g6 hp (by decide) (by decide +kernel) fun s7 Q7 s70 s71 g7 => ?_
    refine pick4 s70 s71 fun y hy => ?_
    have y0 : 0 ≤ y := by omega
    try simp
    have nl : Q7.length = n := g7.len
    refine okE_app (xs := tris rs) (by rw [← nl, List.getElem?_append_right (Nat.le_refl _), Nat.sub_self]; rfl) ?_
    have f1 := kd_few (k := 0) u0 u1 w0' w1' lu1 hu1 x0
    have f2 := kd_more (k := 0) u0 u1 w0' w1' lu1 hu1 y0
    simp
    generalize hfew : (if w * v / u - x > -1000 then w * v / u - x else -1000) = few at f1
    generalize hmore : (if -(-(w * v) / u) + y < 1000 then -(-(w * v) / u) + y else 1000) = more at f2
    simp only [GT.gt] at hfew
    refine ⟨tris rs, by rw [← nl, List.getElem?_append_right (Nat.le_refl _), Nat.sub_self]; rfl, by rw [tris_len]; unfold cap; simp at hl; omega, ?_⟩
    refine ⟨Q7, rs ++ [⟨w, few, more⟩], _, _, _, _, ?_, g7.mono (by omega), by simp at hl ⊢; omega, fun b hb => ?_, rfl⟩
    · rw [← nl, List.set_append_right _ _ (Nat.le_refl _), Nat.sub_self]
      simp [tris, tri]
    · rcases List.mem_append.mp hb with z | z
      · exact hr b z
      · rw [List.mem_singleton.mp z]
        exact ⟨by show 1 ≤ w; omega, by show w ≤ wide; omega, f1, f2, by show -1000 ≤ few; omega, by show more ≤ 1000; omega⟩
  · rintro ρ S ⟨P, rs, a, b, c, d', rfl, hP, hl, hr, rfl⟩
    refine ⟨trivial, ?_⟩
    have nl : P.length = n := hP.len
    have e : (P ++ [some (Cell.lst (tris rs))])[n]? = some (some (.lst (tris rs))) := by rw [← nl, List.getElem?_append_right (Nat.le_refl _), Nat.sub_self]; rfl
    have e2 : xFrzV 6 [some (.cell p), some (.int wide), some (.int often), some (.int lo), some (.int hi), some (.int u), some (.cell n), some (.int v), a, b, c, d'] (P ++ [some (Cell.lst (tris rs))]) = some (.ok (.lst (tris rs)), P ++ [none]) := by
      unfold xFrzV
      simp only [List.getElem?_cons_succ, List.getElem?_cons_zero]
      rw [e]
      dsimp only
      rw [← nl, List.set_append_right _ _ (Nat.le_refl _), Nat.sub_self]
      rfl
    simp [e2, D.low, D.lowAll, low_tris, nl, h.len]
    have e3 : (P ++ [none]).take n = P := by rw [← nl]; exact List.take_left' rfl

    exact ⟨fun x hx => List.all_eq_true.mp (hP.low n) x hx, q lo hi rs P (hP.mono (by omega)) ⟨lo0, hi1, hi2, by simp at hl; omega, u, v, u0, u1, v0, v1, hr⟩⟩
end LW

/-! M5: fractions; shares by the law. -/
namespace LW
open PySem PySem.Spec PyProof.Rows L2 EV

/-- fractions one below another -/
theorem fr_trans {a b c d e f : Int} (hd : 0 < d) (hb : 0 ≤ b) (hf : 0 ≤ f) (h1 : a * d ≤ c * b) (h2 : c * f ≤ e * d) : a * f ≤ e * b := by
  have q1 : a * d * f ≤ c * b * f := Int.mul_le_mul_of_nonneg_right h1 hf
  have q2 : c * f * b ≤ e * d * b := Int.mul_le_mul_of_nonneg_right h2 hb
  have e1 : a * d * f = a * f * d := Int.mul_right_comm ..
  have e2 : c * b * f = c * f * b := Int.mul_right_comm ..
  have e3 : e * d * b = e * b * d := Int.mul_right_comm ..
  exact Int.le_of_mul_le_mul_right (by omega) hd
theorem foldL_spec : ∀ (rs : List Bd) (a : Bd), 0 < a.w → (∀ b, b ∈ rs → 0 < b.w) → (rs.foldl stepL a = a ∨ rs.foldl stepL a ∈ rs) ∧ a.l * (rs.foldl stepL a).w ≤ (rs.foldl stepL a).l * a.w ∧ ∀ b, b ∈ rs → b.l * (rs.foldl stepL a).w ≤ (rs.foldl stepL a).l * b.w
  | [], a, _, _ => ⟨.inl rfl, Int.le_refl _, fun _ h => (List.not_mem_nil h).elim⟩
  | c :: rs, a, ha, h => by
    rw [List.foldl_cons]
    have hc := h c (List.mem_cons_self ..)
    have hr : ∀ b, b ∈ rs → 0 < b.w := fun b hb => h b (List.mem_cons_of_mem _ hb)
    by_cases z : a.l * c.w < c.l * a.w
    · have e : stepL a c = c := if_pos z
      rw [e]
      obtain ⟨i1, i2, i3⟩ := foldL_spec rs c hc hr
      have hw : 0 < (rs.foldl stepL c).w := by rcases i1 with q | q; · rw [q]; exact hc
                                               · exact hr _ q
      refine ⟨.inr ?_, fr_trans hc (by omega) (by omega) (by omega) i2, fun b hb => ?_⟩
      · rcases i1 with q | q
        · rw [q]; exact List.mem_cons_self ..
        · exact List.mem_cons_of_mem _ q
      · rcases List.mem_cons.mp hb with q | q
        · rw [q]; exact i2
        · exact i3 b q
    · have e : stepL a c = a := if_neg z
      rw [e]
      obtain ⟨i1, i2, i3⟩ := foldL_spec rs a ha hr
      have hw : 0 < (rs.foldl stepL a).w := by rcases i1 with q | q; · rw [q]; exact ha
                                               · exact hr _ q
      refine ⟨?_, i2, fun b hb => ?_⟩
      · rcases i1 with q | q
        · exact .inl q
        · exact .inr (List.mem_cons_of_mem _ q)
      · rcases List.mem_cons.mp hb with q | q
        · rw [q]; exact fr_trans ha (by omega) (by omega) (by omega) i2
        · exact i3 b q
theorem foldU_spec : ∀ (rs : List Bd) (a : Bd), 0 < a.w → (∀ b, b ∈ rs → 0 < b.w) → (rs.foldl stepU a = a ∨ rs.foldl stepU a ∈ rs) ∧ (rs.foldl stepU a).m * a.w ≤ a.m * (rs.foldl stepU a).w ∧ ∀ b, b ∈ rs → (rs.foldl stepU a).m * b.w ≤ b.m * (rs.foldl stepU a).w
  | [], a, _, _ => ⟨.inl rfl, Int.le_refl _, fun _ h => (List.not_mem_nil h).elim⟩
  | c :: rs, a, ha, h => by
    rw [List.foldl_cons]
    have hc := h c (List.mem_cons_self ..)
    have hr : ∀ b, b ∈ rs → 0 < b.w := fun b hb => h b (List.mem_cons_of_mem _ hb)
    by_cases z : c.m * a.w < a.m * c.w
    · have e : stepU a c = c := if_pos z
      rw [e]
      obtain ⟨i1, i2, i3⟩ := foldU_spec rs c hc hr
      have hw : 0 < (rs.foldl stepU c).w := by rcases i1 with q | q; · rw [q]; exact hc
                                               · exact hr _ q
      refine ⟨.inr ?_, fr_trans hc (by omega) (by omega) i2 (by omega), fun b hb => ?_⟩
      · rcases i1 with q | q
        · rw [q]; exact List.mem_cons_self ..
        · exact List.mem_cons_of_mem _ q
      · rcases List.mem_cons.mp hb with q | q
        · rw [q]; exact i2
        · exact i3 b q
    · have e : stepU a c = a := if_neg z
      rw [e]
      obtain ⟨i1, i2, i3⟩ := foldU_spec rs a ha hr
      have hw : 0 < (rs.foldl stepU a).w := by rcases i1 with q | q; · rw [q]; exact ha
                                               · exact hr _ q
      refine ⟨?_, i2, fun b hb => ?_⟩
      · rcases i1 with q | q
        · exact .inl q
        · exact .inr (List.mem_cons_of_mem _ q)
      · rcases List.mem_cons.mp hb with q | q
        · rw [q]; exact fr_trans ha (by omega) (by omega) i2 (by omega)
        · exact i3 b q
/-- in lowest terms a quotient is the same -/
theorem low_div {w t b : Int} (hb : 0 < b) : w * (t / (Int.gcd t b : Int)) / (b / (Int.gcd t b : Int)) = w * t / b := by
  have g0 : 0 < (Int.gcd t b : Int) := by
    have := Int.gcd_pos_of_ne_zero_right t (show b ≠ 0 by omega)
    omega
  obtain ⟨x, hx⟩ := Int.gcd_dvd_left (a := t) (b := b)
  obtain ⟨y, hy⟩ := Int.gcd_dvd_right (a := t) (b := b)
  generalize (Int.gcd t b : Int) = g at *
  subst hx
  subst hy
  rw [Int.mul_ediv_cancel_left _ (by omega), Int.mul_ediv_cancel_left _ (by omega), Int.mul_left_comm, Int.mul_ediv_mul_of_pos _ _ g0]
theorem low_pos {t b : Int} (hb : 0 < b) : 0 < b / (Int.gcd t b : Int) := by
  have g0 : 0 < (Int.gcd t b : Int) := by
    have := Int.gcd_pos_of_ne_zero_right t (show b ≠ 0 by omega)
    omega
  obtain ⟨y, hy⟩ := Int.gcd_dvd_right (a := t) (b := b)
  generalize (Int.gcd t b : Int) = g at *
  subst hy
  rw [Int.mul_ediv_cancel_left _ (by omega)]
  exact Int.pos_of_mul_pos_right hb g0
theorem low_sm {t b : Int} (h : Sm t) : Sm (t / (Int.gcd t b : Int)) := Nat.lt_of_le_of_lt (Int.natAbs_ediv_le_natAbs _ _) h
theorem sm_one : Sm 1 := by decide +kernel
def pairL (b : Bd) : D := .tup [.int b.l, .int b.w]
def pairU (b : Bd) : D := .tup [.int b.m, .int b.w]
theorem stepL_self (b : Bd) : stepL b b = b := by unfold stepL; split <;> rfl
theorem stepU_self (b : Bd) : stepU b b = b := by unfold stepU; split <;> rfl
/-- what a kind's book is -/
structure BookOk (bs : List Bd) : Prop where
  sm : ∀ b, b ∈ bs → SmB b
  w0 : ∀ b, b ∈ bs → 0 < b.w
  no : confl bs = none
theorem Kd.sm {wide often lo hi : Int} {rs : List Bd} (h : Kd wide often lo hi rs) (hw : wide ≤ 1000) : ∀ b, b ∈ rs → b.w.natAbs ≤ 1000 ∧ b.l.natAbs ≤ 1000 ∧ b.m.natAbs ≤ 1000 ∧ 1 ≤ b.w ∧ b.l ≤ b.m := by
  obtain ⟨u, v, u0, u1, v0, v1, hr⟩ := h.ex
  intro b hb
  obtain ⟨h1, h2, h3, h4, h5, h6⟩ := hr b hb
  have h7 : b.l ≤ b.m := Int.le_of_mul_le_mul_right (Int.le_trans h3 h4) u0
  omega
theorem sm1000 {i : Int} (h : i.natAbs ≤ 1000) : Sm i := Sm.of h (by decide +kernel)
theorem Kd.okR {wide often lo hi : Int} {rs : List Bd} (h : Kd wide often lo hi rs) (hw : wide ≤ 1000) : ∀ b, b ∈ rs → okR b = true := by
  intro b hb
  have := h.sm hw b hb
  unfold LW.okR
  simp
  omega
theorem Kd.book {wide often lo hi : Int} {rs : List Bd} (h : Kd wide often lo hi rs) (hw : wide ≤ 1000) : BookOk (⟨1, lo, hi⟩ :: rs) := by
  have hs := h.sm hw
  have a := h.lo0
  have b := h.lh
  have c := h.hi0
  refine ⟨fun x hx => ?_, fun x hx => ?_, confl_none.mpr ?_⟩
  · rcases List.mem_cons.mp hx with z | z
    · rw [z]; exact ⟨sm_one, sm1000 (by show lo.natAbs ≤ _; omega), sm1000 (by show hi.natAbs ≤ _; omega)⟩
    · have := hs x z
      exact ⟨sm1000 this.1, sm1000 this.2.1, sm1000 this.2.2.1⟩
  · rcases List.mem_cons.mp hx with z | z
    · rw [z]; exact (by decide : (0 : Int) < 1)
    · have := hs x z
      omega
  · obtain ⟨u, v, u0, u1, v0, v1, hr⟩ := h.ex
    have key : ∀ x, x ∈ (⟨1, lo, hi⟩ : Bd) :: rs → 0 < x.w ∧ x.l * u ≤ v * x.w ∧ v * x.w ≤ x.m * u := by
      intro x hx
      rcases List.mem_cons.mp hx with z | z
      · rw [z]
        refine ⟨(by decide : (0 : Int) < 1), ?_, ?_⟩
        · show lo * u ≤ v * 1
          omega
        · show v * 1 ≤ hi * u
          omega
      · obtain ⟨h1, _, h3, h4, _⟩ := hr x z
        rw [Int.mul_comm v]
        exact ⟨by omega, h3, h4⟩
    intro x hx y hy
    obtain ⟨x1, x2, x3⟩ := key x hx
    obtain ⟨y1, y2, y3⟩ := key y hy
    exact fr_trans u0 (by omega) (by omega) x2 y3
end LW

/-! M6: strictest rules. -/
namespace LW
open PySem PySem.Spec PyProof.Rows L2 EV

theorem length_e {w l : Int} {S : Sto} (h : l ≤ w) : f_check_length [.int w, .int l] S = some (.ok .non, S) := by
  have q : OkE (f_check_length [.int w, .int l] S) fun d S' => d = .non ∧ S' = S := by
    refine okE_fn rfl ?_
    unfold g_check_length
    simp [show ¬ w < l by omega]
  obtain ⟨_, _, q1, rfl, rfl⟩ := q.eq
  exact q1
abbrev upB (b0 : Bd) (rs : List Bd) : Bd := rs.foldl stepU b0
abbrev loB (b0 : Bd) (rs : List Bd) : Bd := rs.foldl stepL b0
theorem strict_e {b0 : Bd} {rs : List Bd} {S : Sto} {w : Int} (h : BookOk (b0 :: rs)) (w1 : 1 ≤ w) (sw : Sm w) :
    f_strictest_least [bk (b0 :: rs), .int w] S = some (.ok (.int (w * (upB b0 rs).m / (upB b0 rs).w)), S) ∧
    f_strictest_most [bk (b0 :: rs), .int w] S = some (.ok (.int (-(-w * (loB b0 rs).l / (loB b0 rs).w))), S) := by
  obtain ⟨L, U, e1, e2, hL, hU, e⟩ := shares_e (S := S) (fun b hb => ⟨h.sm b hb, h.w0 b hb⟩) h.no
  rw [List.foldl_cons, stepL_self] at e1
  rw [List.foldl_cons, stepU_self] at e2
  have e1' : loB b0 rs = L := e1
  have e2' : upB b0 rs = U := e2
  rw [e1', e2']
  have sL := h.sm L hL
  have sU := h.sm U hU
  have wL := h.w0 L hL
  have wU := h.w0 U hU
  have snw : Sm (-w) := by unfold Sm; rw [Int.natAbs_neg]; exact sw
  have pos : ∀ {t b : Int}, Sm b → 0 < b → Sm (b / (Int.gcd t b : Int)) := fun {t b} hb h0 => Nat.lt_of_le_of_lt (Int.natAbs_ediv_le_natAbs _ _) hb
  have gU : ∀ S, gMul (.int w) (.int (U.m / (Int.gcd U.m U.w : Int))) S = some (.ok (.int (w * (U.m / (Int.gcd U.m U.w : Int)))), S) := sw.gm (low_sm sU.2.2)
  have gL : ∀ S, gMul (.int (-w)) (.int (L.l / (Int.gcd L.l L.w : Int))) S = some (.ok (.int (-w * (L.l / (Int.gcd L.l L.w : Int)))), S) := snw.gm (low_sm sL.2.1)
  have dU : ∀ i S, gDiv (.int i) (.int (U.w / (Int.gcd U.m U.w : Int))) S = some (.ok (.int (i / (U.w / (Int.gcd U.m U.w : Int)))), S) := fun i => (pos sU.1 wU).gd (low_pos wU)
  have dL : ∀ i S, gDiv (.int i) (.int (L.w / (Int.gcd L.l L.w : Int))) S = some (.ok (.int (i / (L.w / (Int.gcd L.l L.w : Int)))), S) := fun i => (pos sL.1 wL).gd (low_pos wL)
  have len := length_e (S := S) w1
  constructor
  · have q : OkE (f_strictest_least [bk (b0 :: rs), .int w] S) fun d S' => d = .int (w * U.m / U.w) ∧ S' = S := by
      refine okE_fn rfl ?_
      unfold g_strictest_least
      simp only [okS_seq, u_asg, okS_bndS, u_bin, u_call, okE_bnd, u_cons, u_nil, u_var, List.map_cons, List.map_nil, List.cons_append, List.nil_append, List.getElem?_cons_zero, okE_ok, List.length_cons, List.length_nil, if_true, e, u_c, ix1T, frac, u_asgT, u_gConsT, u_gName, u_gNilT]
      simp [len, gU, dU, low_div wU]
    obtain ⟨_, _, q1, rfl, rfl⟩ := q.eq
    exact q1
  · have q : OkE (f_strictest_most [bk (b0 :: rs), .int w] S) fun d S' => d = .int (-(-w * L.l / L.w)) ∧ S' = S := by
      refine okE_fn rfl ?_
      unfold g_strictest_most
      simp only [okS_seq, u_asg, okS_bndS, u_bin, u_call, okE_bnd, u_cons, u_nil, u_var, List.map_cons, List.map_nil, List.cons_append, List.nil_append, List.getElem?_cons_zero, okE_ok, List.length_cons, List.length_nil, if_true, e, u_c, ix0T, frac, u_asgT, u_gConsT, u_gName, u_gNilT]
      simp [len, gL, dL, low_div wL]
    obtain ⟨_, _, q1, rfl, rfl⟩ := q.eq
    exact q1
end LW

/-! M8: least costs from 0: the loops. -/
namespace LW
open PySem PySem.Spec PyProof.Rows L2 EV CT
def pD (s : Mv) : EV.D := .tup [.int s.1, .int s.2]
def pend (L : List La) : Nat := (L.map fun e => e.ps.length).sum
def noneN (fd : List (Option Int)) : Nat := fd.countP Option.isNone
theorem pend_mem {L : List La} {e : La} (h : e ∈ L) : e.ps.length ≤ pend L := by
  unfold pend
  induction L with
  | nil => exact (List.not_mem_nil h).elim
  | cons a L ih =>
    rw [List.map_cons, List.sum_cons]
    rcases List.mem_cons.mp h with z | z
    · rw [z]; omega
    · have := ih z; omega
theorem dic_at {n : Nat} {S T : Sto} {fd : List (Option Int)} {L : List La} (h : DS n S fd L T) : dicD T (.cell (n + 1)) = some (L.map La.em) := by
  unfold dicD
  try dsimp only
  rw [h.dic]
theorem get_at {n : Nat} {S T : Sto} {fd : List (Option Int)} {L : List La} (h : DS n S fd L T) {p : Int} (p0 : 0 ≤ p) (p1 : p < fd.length) : gIdx (.cell (n + 2)) (.int p) T = some (.ok (oD (fdF fd p)), T) := by
  obtain ⟨k, rfl⟩ := Int.eq_ofNat_of_zero_le p0
  have hk : k < fd.length := by omega
  have e : seqD T (.cell (n + 2)) = some (fd.map oD) := by
    unfold seqD
    try dsimp only
    rw [h.fnd]
  unfold gIdx
  try dsimp only
  rw [e]
  try dsimp only
  rw [ix_lt (a := oD fd[k]) (by rw [List.length_map]; exact hk) (by rw [List.getElem?_map, List.getElem?_eq_getElem hk]; rfl)]
  try dsimp only
  unfold fdF
  rw [if_pos (by omega), Int.toNat_natCast, List.getElem?_eq_getElem hk]
  rfl
structure LI (n : Nat) (S : Sto) (st : List Mv) (size w c0 : Int) (cc : Nat) (pp : List Int) (v len0 : Nat) (rem : List Int) (left : List Mv) (here : Int) (fd : List (Option Int)) (L : List La) (T : Sto) : Prop where
  ds : DS n S fd L T
  gd : Good st size w (fdF fd) (fun k q => owL L k q ∨ (k = c0 ∧ q ∈ rem) ∨ ∃ s, s ∈ left ∧ k = c0 + s.2 ∧ q = here + s.1 ∧ 0 ≤ q ∧ q < size)
  lo : ∀ e, e ∈ L → c0 ≤ e.k
  ne : ∀ e, e ∈ L → e.ps ≠ []
  pc : T[cc]? = some (some (.lst (pp.map .int)))
  cn : cc ∉ L.map La.c
  c1 : cc ≠ n + 1
  c2 : cc ≠ n + 2
  fl : (fd.length : Int) = size
  me : pend L + left.length + (st.length + 1) * noneN fd + len0 ≤ v
  wi : ∀ k q, owL L k q → 0 ≤ q ∧ q < size
  ls : ∀ s, s ∈ left → s ∈ st
theorem pend_push (L : List La) (k : Int) (m : Nat) (q : Int) (hn : (L.map La.k).Nodup) : pend (pushL L k m q) = pend L + 1 := by
  unfold pushL pend
  by_cases hk : k ∈ L.map La.k
  · rw [if_pos hk]
    induction L with
    | nil => simp at hk
    | cons a L ih =>
      rw [List.map_cons, List.nodup_cons] at hn
      by_cases z : a.k = k
      · have no : ∀ b, b ∈ L → ¬ b.k = k := fun b hb y => hn.1 (by rw [z, ← y]; exact List.mem_map_of_mem hb)
        have e : L.map (fun e => if e.k = k then (⟨e.k, e.c, e.ps ++ [q]⟩ : La) else e) = L := by
          conv => rhs; rw [← List.map_id L]
          exact List.map_congr_left fun b hb => if_neg (no b hb)
        rw [List.map_cons, List.map_cons, List.map_cons, e, if_pos z, List.sum_cons, List.sum_cons, List.length_append]
        simp
        omega
      · have hk' : k ∈ L.map La.k := by
          rw [List.map_cons] at hk
          rcases List.mem_cons.mp hk with y | y
          · exact absurd y.symm z
          · exact y
        rw [List.map_cons, List.map_cons, List.map_cons, if_neg z, List.sum_cons, List.sum_cons, ih hn.2 hk']
        omega
  · rw [if_neg hk]
    simp
theorem len_pend {L : List La} (h : ∀ e, e ∈ L → e.ps ≠ []) : L.length ≤ pend L := by
  unfold pend
  induction L with
  | nil => exact Nat.le_refl _
  | cons a L ih =>
    have h1 := ih fun e he => h e (List.mem_cons_of_mem _ he)
    have h2 := List.length_pos_iff.mpr (h a (List.mem_cons_self ..))
    rw [List.map_cons, List.sum_cons, List.length_cons]
    omega
section
variable {n : Nat} {S T : Sto} {st : List Mv} {size w c0 : Int} {cc : Nat} {pp : List Int} {v len0 : Nat} {rem : List Int} {left : List Mv} {here : Int} {fd : List (Option Int)} {L : List La} {s : Mv}
theorem LI.drop (H : LI n S st size w c0 cc pp v len0 rem (s :: left) here fd L T) (hd : (0 ≤ here + s.1 → here + s.1 < size → ∃ c, fdF fd (here + s.1) = some c)) : LI n S st size w c0 cc pp v len0 rem left here fd L T where
  ds := H.ds
  gd := H.gd.sub (fun k q h => by
    rcases h with h | h | ⟨t, ht, h⟩
    · exact .inl h
    · exact .inr (.inl h)
    · exact .inr (.inr ⟨t, List.mem_cons_of_mem _ ht, h⟩)) (fun k q h => by
    rcases h with h | h | ⟨t, ht, h1, h2, h3, h4⟩
    · exact .inl (.inl h)
    · exact .inl (.inr (.inl h))
    · rcases List.mem_cons.mp ht with z | z
      · subst z
        subst h2
        exact .inr (hd h3 h4)
      · exact .inl (.inr (.inr ⟨t, z, h1, h2, h3, h4⟩)))
  lo := H.lo
  ne := H.ne
  pc := H.pc
  cn := H.cn
  c1 := H.c1
  c2 := H.c2
  fl := H.fl
  me := by have := H.me; rw [List.length_cons] at this; omega
  wi := H.wi
  ls := fun t ht => H.ls t (List.mem_cons_of_mem _ ht)
theorem LI.push (H : LI n S st size w c0 cc pp v len0 rem (s :: left) here fd L T) (h0 : ∀ s, s ∈ st → 0 ≤ s.2) (q0 : 0 ≤ here + s.1) (q1 : here + s.1 < size) {m : Nat} {T2 : Sto} (hm : m ≠ cc)
    (D2 : DS n S fd (pushL L (c0 + s.2) m (here + s.1)) T2) (hT : T2[cc]? = T[cc]?) : LI n S st size w c0 cc pp v len0 rem left here fd (pushL L (c0 + s.2) m (here + s.1)) T2 where
  ds := D2
  gd := H.gd.sub (fun k q h => by
    rcases h with h | h | ⟨t, ht, h⟩
    · rcases (push_ow _ _ _ _ _ _).mp h with h | ⟨rfl, rfl⟩
      · exact .inl h
      · exact .inr (.inr ⟨s, List.mem_cons_self .., rfl, rfl, q0, q1⟩)
    · exact .inr (.inl h)
    · exact .inr (.inr ⟨t, List.mem_cons_of_mem _ ht, h⟩)) (fun k q h => by
    refine .inl ?_
    rcases h with h | h | ⟨t, ht, h1, h2, h3, h4⟩
    · exact .inl ((push_ow _ _ _ _ _ _).mpr (.inl h))
    · exact .inr (.inl h)
    · rcases List.mem_cons.mp ht with z | z
      · subst z
        exact .inl ((push_ow _ _ _ _ _ _).mpr (.inr ⟨h1, h2⟩))
      · exact .inr (.inr ⟨t, z, h1, h2, h3, h4⟩))
  lo := fun e he => by
    rcases push_k _ _ _ _ e he with z | ⟨a, ha, z⟩
    · have := h0 s (H.ls s (List.mem_cons_self ..)); omega
    · rw [← z]; exact H.lo a ha
  ne := fun e he => by
    unfold pushL at he
    split at he
    · obtain ⟨a, ha, rfl⟩ := List.mem_map.mp he
      split
      · simp
      · exact H.ne a ha
    · rcases List.mem_append.mp he with z | z
      · exact H.ne e z
      · rw [List.mem_singleton.mp z]; simp
  pc := by rw [hT]; exact H.pc
  cn := fun h => by
    unfold pushL at h
    split at h
    · rw [List.map_map] at h
      obtain ⟨a, ha, z⟩ := List.mem_map.mp h
      refine H.cn (List.mem_map.mpr ⟨a, ha, ?_⟩)
      rw [← z]
      show a.c = La.c (if a.k = _ then _ else a)
      split <;> rfl
    · rw [List.map_append] at h
      rcases List.mem_append.mp h with z | z
      · exact H.cn z
      · exact hm (List.mem_singleton.mp z).symm
  c1 := H.c1
  c2 := H.c2
  fl := H.fl
  me := by
    have := H.me
    rw [List.length_cons] at this
    rw [pend_push _ _ _ _ H.ds.ks]
    omega
  wi := fun k q h => by
    rcases (push_ow _ _ _ _ _ _).mp h with h | ⟨rfl, rfl⟩
    · exact H.wi k q h
    · exact ⟨q0, q1⟩
  ls := fun t ht => H.ls t (List.mem_cons_of_mem _ ht)
end
def frC (n0 : Nat) (sts : EV.D) (len size : Int) (n : Nat) (a b c d e : Option EV.D) : Frm := [some (.cell n0), some sts, some (.int len), some (.int size), some (.cell (n + 1)), some (.cell (n + 2)), a, b, c, d, e]
def invS (n0 : Nat) (sts : EV.D) (len size : Int) (n : Nat) (S : Sto) (st : List Mv) (w c0 : Int) (cc : Nat) (pp : List Int) (v len0 : Nat) (rem : List Int) (here : Int) (ds : List EV.D) (ρ : Frm) (T : Sto) : Prop :=
  ∃ left fd L x y z, ds = left.map pD ∧ LI n S st size w c0 cc pp v len0 rem left here fd L T ∧ ρ = frC n0 sts len size n (some (.int c0)) (some (.int here)) x y z
theorem steps_loop {n0 : Nat} {sts : EV.D} {len size : Int} {n : Nat} {S T : Sto} {st : List Mv} {w c0 : Int} {cc : Nat} {pp : List Int} {v len0 : Nat} {rem : List Int} {here : Int} {ρ : Frm} {N : Nd} {ds : List EV.D} (hv : v < 10000000) (h0 : ∀ s, s ∈ st → 0 ≤ s.2)
    (hi : invS n0 sts len size n S st w c0 cc pp v len0 rem here ds ρ T)
    (hN : ∀ ρ T, invS n0 sts len size n S st w c0 cc pp v len0 rem here [] ρ T → N.nx ρ T) :
    OkS (forLoop (fun _ => True) (gTupT 2 (gConsT (EV.gName 8) (gConsT (EV.gName 9) gNilT))) (xSeq (xSet 10 (xBin gAdd (xVar 7) (xVar 8))) (xIfS (xAnd (xChain (gCmp fun i j => decide (i ≤ j)) (gCmp fun i j => decide (i < j)) (xC (.int 0)) (xVar 10) (xVar 3)) (xCmp (gIsN false) (xBin gIdx (xVar 5) (xVar 10)) (xC .non))) (xExpr (xApp (xSetd (xVar 4) (xBin gAdd (xVar 6) (xVar 9)) (xCel (xLst xNil))) (xVar 10))) xNx)) ds ρ T) N := by
  refine okS_for (invS n0 sts len size n S st w c0 cc pp v len0 rem here) ds ρ T hi ?_ (fun ρ T h => ⟨trivial, hN ρ T h⟩)
  rintro d ds ρ T ⟨left, fd, L, x, y, z, e, H, rfl⟩
  cases left with
  | nil => cases e
  | cons s left =>
    cases e
    refine ⟨trivial, _, by simp [pD, frC]; rfl, ?_⟩
    have sst := H.ls s (List.mem_cons_self ..)
    have hls : ∀ t, t ∈ left → t ∈ st := fun t ht => H.ls t (List.mem_cons_of_mem _ ht)
    have hme := H.me
    rw [List.length_cons] at hme
    simp
    by_cases q0 : 0 ≤ here + s.1
    · by_cases q1 : here + s.1 < size
      · have eg := get_at H.ds q0 (by rw [H.fl]; exact q1)
        simp [q0, q1, eg]
        cases ef : fdF fd (here + s.1) with
        | some c2 =>
          simp [oD]
          exact ⟨left, fd, L, _, _, _, rfl, H.drop fun _ _ => ⟨c2, ef⟩, rfl⟩
        | none =>
          have hLp : L.length < 16000000 := by have := len_pend H.ne; omega
          have hpp : ∀ e, e ∈ L → e.ps.length < 16000000 := fun e he => by have := pend_mem he; omega
          obtain ⟨c, xs, T2, e1, e2, e3, D2, e4⟩ := H.ds.push (c0 + s.2) (here + s.1) hLp hpp
          have ccl : cc < T.length := (List.getElem?_eq_some_iff.mp H.pc).1
          have hT := e4 cc ccl H.c1 H.cn
          simp [oD, setdE_of (dic_at H.ds), e1]
          refine okE_app e2 ?_
          simp
          refine ⟨xs, e2, Nat.lt_of_lt_of_le e3 (by unfold cap; omega), ?_⟩
          exact ⟨left, fd, _, _, _, _, rfl, H.push h0 q0 q1 (by omega) D2 hT, rfl⟩
      · simp [q0, q1]
        exact ⟨left, fd, L, _, _, _, rfl, H.drop fun _ h => absurd h q1, rfl⟩
    · simp [q0]
      exact ⟨left, fd, L, _, _, _, rfl, H.drop fun h => absurd h q0, rfl⟩
end LW

/-! M9: least costs from 0: a layer, all layers. -/
namespace LW
open PySem PySem.Spec PyProof.Rows L2 EV CT
theorem noneN_set {fd : List (Option Int)} {p : Nat} {c : Int} (h : fd[p]? = some none) : noneN (fd.set p (some c)) + 1 = noneN fd := by
  unfold noneN
  induction fd generalizing p with
  | nil => cases h
  | cons a fd ih =>
    cases p with
    | zero =>
      cases h
      simp
    | succ p =>
      have := ih (p := p) (by simpa using h)
      rw [List.set_cons_succ, List.countP_cons, List.countP_cons]
      omega
theorem fdF_none {fd : List (Option Int)} {q : Int} (q0 : 0 ≤ q) (q1 : q < fd.length) (h : fdF fd q = none) : fd[q.toNat]? = some none := by
  unfold fdF at h
  rw [if_pos q0] at h
  have hk : q.toNat < fd.length := by omega
  rw [List.getElem?_eq_getElem hk] at h ⊢
  simp at h
  rw [h]
section
variable {n : Nat} {S T : Sto} {st : List Mv} {size w c0 : Int} {cc : Nat} {pp : List Int} {v len0 : Nat} {rem : List Int} {left : List Mv} {here : Int} {fd : List (Option Int)} {L : List La} {s : Mv} {q : Int}
theorem LI.at0 (H : LI n S st size w c0 cc pp v len0 rem [] here fd L T) (h2 : Int) : LI n S st size w c0 cc pp v len0 rem [] h2 fd L T where
  ds := H.ds
  gd := H.gd.sub (fun k q h => by
    rcases h with h | h | ⟨t, ht, _⟩
    · exact .inl h
    · exact .inr (.inl h)
    · exact (List.not_mem_nil ht).elim) (fun k q h => by
    rcases h with h | h | ⟨t, ht, _⟩
    · exact .inl (.inl h)
    · exact .inl (.inr (.inl h))
    · exact (List.not_mem_nil ht).elim)
  lo := H.lo
  ne := H.ne
  pc := H.pc
  cn := H.cn
  c1 := H.c1
  c2 := H.c2
  fl := H.fl
  me := H.me
  wi := H.wi
  ls := H.ls
theorem LI.skip (H : LI n S st size w c0 cc pp v len0 (q :: rem) [] here fd L T) {c : Int} (hc : fdF fd q = some c) : LI n S st size w c0 cc pp v len0 rem [] here fd L T where
  ds := H.ds
  gd := H.gd.sub (fun k q' h => by
    rcases h with h | h | h
    · exact .inl h
    · exact .inr (.inl ⟨h.1, List.mem_cons_of_mem _ h.2⟩)
    · exact .inr (.inr h)) (fun k q' h => by
    rcases h with h | ⟨h1, h2⟩ | h
    · exact .inl (.inl h)
    · rcases List.mem_cons.mp h2 with z | z
      · rw [z]; exact .inr ⟨c, hc⟩
      · exact .inl (.inr (.inl ⟨h1, z⟩))
    · exact .inl (.inr (.inr h)))
  lo := H.lo
  ne := H.ne
  pc := H.pc
  cn := H.cn
  c1 := H.c1
  c2 := H.c2
  fl := H.fl
  me := H.me
  wi := H.wi
  ls := H.ls
theorem LI.settle (H : LI n S st size w c0 cc pp v len0 (q :: rem) [] here fd L T) (h0 : ∀ s, s ∈ st → 0 ≤ s.2) (q0 : 0 ≤ q) (q1 : q < size) (hc : fdF fd q = none) :
    LI n S st size w c0 cc pp v len0 rem st q (fd.set q.toNat (some c0)) L (T.set (n + 2) (some (.lst ((fd.set q.toNat (some c0)).map oD)))) := by
  have ql : q < fd.length := by rw [H.fl]; exact q1
  have gs := H.gd.settle h0 (k := c0) (q := q) (.inr (.inl ⟨rfl, List.mem_cons_self ..⟩)) (fun k' q' h => by
    rcases h with ⟨e, he, e1, _⟩ | ⟨h, _⟩ | ⟨t, ht, _⟩
    · rw [← e1]; exact H.lo e he
    · rw [h]; exact Int.le_refl _
    · exact (List.not_mem_nil ht).elim) hc
  rw [← fdF_set q0 ql] at gs
  refine ⟨H.ds.put _ _, gs.sub (fun k q' h => ?_) (fun k q' h => ?_), H.lo, H.ne, ?_, H.cn, H.c1, H.c2, by rw [List.length_set]; exact H.fl, ?_, H.wi, fun _ h => h⟩
  · rcases h with h | ⟨h1, h2⟩ | ⟨t, ht, h⟩
    · exact .inl (.inl h)
    · exact .inl (.inr (.inl ⟨h1, List.mem_cons_of_mem _ h2⟩))
    · exact .inr ⟨t, ht, h⟩
  · rcases h with (h | ⟨h1, h2⟩ | ⟨t, ht, _⟩) | h
    · exact .inl (.inl h)
    · rcases List.mem_cons.mp h2 with z | z
      · refine .inr ⟨c0, ?_⟩
        rw [fdF_set q0 ql]
        exact if_pos z
      · exact .inl (.inr (.inl ⟨h1, z⟩))
    · exact (List.not_mem_nil ht).elim
    · exact .inl (.inr (.inr h))
  · rw [List.getElem?_set_ne (Ne.symm H.c2)]; exact H.pc
  · have := H.me
    have e := noneN_set (c := c0) (fdF_none q0 ql hc)
    rw [← e, Nat.mul_add] at this
    simp at this
    omega
end
def invF (n0 : Nat) (sts : EV.D) (len size : Int) (n : Nat) (S : Sto) (st : List Mv) (w c0 : Int) (cc : Nat) (pp : List Int) (v len0 : Nat) (ds : List EV.D) (ρ : Frm) (T : Sto) : Prop :=
  ∃ rem fd L a b c d, ds = rem.map EV.D.int ∧ LI n S st size w c0 cc pp v len0 rem [] 0 fd L T ∧ (∀ q, q ∈ rem → 0 ≤ q ∧ q < size) ∧ ρ = frC n0 sts len size n (some (.int c0)) a b c d
theorem layer_loop {n0 : Nat} {len size : Int} {n : Nat} {S T : Sto} {st : List Mv} {w c0 : Int} {cc : Nat} {pp : List Int} {v len0 : Nat} {ρ : Frm} {N : Nd} {ds : List EV.D} (hv : v < 10000000) (h0 : ∀ s, s ∈ st → 0 ≤ s.2)
    (hi : invF n0 (.lst (st.map pD)) len size n S st w c0 cc pp v len0 ds ρ T) (hN : ∀ ρ T, invF n0 (.lst (st.map pD)) len size n S st w c0 cc pp v len0 [] ρ T → N.nx ρ T) :
    OkS (forLoop (fun S2 => S2[cc]? = some (some (.lst (pp.map EV.D.int)))) (EV.gName 7) (xIfS (xCmp (gIsN false) (xBin gIdx (xVar 5) (xVar 7)) (xC .non)) (xSeq (xSetIx (xVar 5) (xVar 7) (xVar 6)) (xFor (xSeqI (xVar 1)) (gTupT 2 (gConsT (EV.gName 8) (gConsT (EV.gName 9) gNilT))) (xSeq (xSet 10 (xBin gAdd (xVar 7) (xVar 8))) (xIfS (xAnd (xChain (gCmp fun i j => decide (i ≤ j)) (gCmp fun i j => decide (i < j)) (xC (.int 0)) (xVar 10) (xVar 3)) (xCmp (gIsN false) (xBin gIdx (xVar 5) (xVar 10)) (xC .non))) (xExpr (xApp (xSetd (xVar 4) (xBin gAdd (xVar 6) (xVar 9)) (xCel (xLst xNil))) (xVar 10))) xNx)))) xNx) ds ρ T) N := by
  refine okS_for (invF n0 (.lst (st.map pD)) len size n S st w c0 cc pp v len0) ds ρ T hi ?_ (fun ρ T h => ⟨?_, hN ρ T h⟩)
  · rintro d ds ρ T ⟨rem, fd, L, a, b, c, d', e, H, hq, rfl⟩
    cases rem with
    | nil => cases e
    | cons q rem =>
      cases e
      refine ⟨H.pc, _, u_gName, ?_⟩
      obtain ⟨q0, q1⟩ := hq q (List.mem_cons_self ..)
      have hq' : ∀ x, x ∈ rem → 0 ≤ x ∧ x < size := fun x hx => hq x (List.mem_cons_of_mem _ hx)
      have eg := get_at H.ds q0 (by rw [H.fl]; exact q1)
      cases ef : fdF fd q with
      | some c2 =>
        rw [ef] at eg
        simp [frC, eg, oD]
        exact ⟨rem, fd, L, _, _, _, _, rfl, H.skip ef, hq', rfl⟩
      | none =>
        rw [ef] at eg
        have ep : putIx (.cell (n + 2)) (.int q) (.int c0) T = some (.ok .non, T.set (n + 2) (some (.lst ((fd.set q.toNat (some c0)).map oD)))) := by
          have ql : q < fd.length := by rw [H.fl]; exact q1
          rw [putIx_of H.ds.fnd (m := q.toNat) (by unfold ixN; simp [q0, ql]), List.map_set]
          rfl
        simp [frC, eg, oD, ep]
        have HS := H.settle h0 q0 q1 ef
        rw [List.map_set] at HS
        refine steps_loop (n0 := n0) (sts := .lst (st.map pD)) (len := len) (size := size) (n := n) (S := S) (st := st) (w := w) (c0 := c0) (cc := cc) (pp := pp) (v := v) (len0 := len0) (rem := rem) (here := q) hv h0 ⟨st, fd.set q.toNat (some c0), L, _, _, _, rfl, HS, rfl⟩ ?_
        rintro ρ T ⟨left, fd, L, x, y, z, e, H2, rfl⟩
        cases left with
        | cons _ _ => cases e
        | nil => exact ⟨rem, fd, L, _, _, _, _, rfl, H2.at0 0, hq', rfl⟩
  · obtain ⟨rem, fd, L, a, b, c, d', e, H, hq, rfl⟩ := h
    exact H.pc
theorem nd_inj {α β : Type} {f : α → β} : ∀ {L : List α}, (L.map f).Nodup → ∀ {a b : α}, a ∈ L → b ∈ L → f a = f b → a = b
  | [], _, _, _, ha, _, _ => (List.not_mem_nil ha).elim
  | c :: L, h, a, b, ha, hb, e => by
    rw [List.map_cons, List.nodup_cons] at h
    rcases List.mem_cons.mp ha with x | x <;> rcases List.mem_cons.mp hb with y | y
    · rw [x, y]
    · exact absurd (by rw [← x, e]; exact List.mem_map_of_mem y) h.1
    · exact absurd (by rw [← y, ← e]; exact List.mem_map_of_mem x) h.1
    · exact nd_inj h.2 x y e
theorem pend_cut : ∀ {L : List La} {e : La}, (L.map La.k).Nodup → e ∈ L → pend (L.filter fun a => decide (a.k ≠ e.k)) + e.ps.length = pend L
  | a :: L, e, h, he => by
    rw [List.map_cons, List.nodup_cons] at h
    rcases List.mem_cons.mp he with z | z
    · subst z
      have : L.filter (fun a => decide (a.k ≠ e.k)) = L := List.filter_eq_self.mpr fun b hb => by
        simp
        intro y
        exact h.1 (by rw [← y]; exact List.mem_map_of_mem hb)
      rw [List.filter_cons, if_neg (by simp), this]
      unfold pend
      rw [List.map_cons, List.sum_cons]
      omega
    · have ne : a.k ≠ e.k := fun y => h.1 (by rw [y]; exact List.mem_map_of_mem z)
      have ih := pend_cut h.2 z
      rw [List.filter_cons, if_pos (by simp [ne])]
      unfold pend at ih ⊢
      rw [List.map_cons, List.map_cons, List.sum_cons, List.sum_cons]
      omega
structure WI (n : Nat) (S : Sto) (st : List Mv) (size w : Int) (v : Nat) (fd : List (Option Int)) (L : List La) (T : Sto) : Prop where
  ds : DS n S fd L T
  gd : Good st size w (fdF fd) (owL L)
  ne : ∀ e, e ∈ L → e.ps ≠ []
  fl : (fd.length : Int) = size
  wi : ∀ k q, owL L k q → 0 ≤ q ∧ q < size
  me : pend L + (st.length + 1) * noneN fd ≤ v
def invW (n0 : Nat) (sts : EV.D) (len size : Int) (n : Nat) (S : Sto) (st : List Mv) (w : Int) (v : Nat) (ρ : Frm) (T : Sto) : Prop :=
  ∃ fd L a b c d e, WI n S st size w v fd L T ∧ ρ = frC n0 sts len size n a b c d e
theorem WI.take {n : Nat} {S T T2 : Sto} {st : List Mv} {size w : Int} {v : Nat} {fd : List (Option Int)} {L : List La} {e : La} (H : WI n S st size w v fd L T) (he : e ∈ L) (hm : ∀ a, a ∈ L → e.k ≤ a.k) (D2 : DS n S fd (L.filter fun a => decide (a.k ≠ e.k)) T2) (hT : T2[e.c]? = T[e.c]?) :
    LI n S st size w e.k e.c e.ps v e.ps.length e.ps [] 0 fd (L.filter fun a => decide (a.k ≠ e.k)) T2 := by
  obtain ⟨q1, q2, q3, q4⟩ := H.ds.cel e he
  refine ⟨D2, H.gd.sub (fun k q h => ?_) (fun k q h => ?_), fun a ha => hm a (List.mem_filter.mp ha).1, fun a ha => H.ne a (List.mem_filter.mp ha).1, by rw [hT]; exact q1, fun h => ?_, q3, q4, H.fl, ?_, fun k q h => ?_, fun t ht => (List.not_mem_nil ht).elim⟩
  · rcases h with ⟨a, ha, h⟩ | ⟨rfl, h⟩ | ⟨t, ht, _⟩
    · exact ⟨a, (List.mem_filter.mp ha).1, h⟩
    · exact ⟨e, he, rfl, h⟩
    · exact (List.not_mem_nil ht).elim
  · obtain ⟨a, ha, h1, h2⟩ := h
    refine .inl ?_
    by_cases z : a.k = e.k
    · have := nd_inj H.ds.ks ha he z
      subst this
      exact .inr (.inl ⟨h1.symm, h2⟩)
    · exact .inl ⟨a, List.mem_filter.mpr ⟨ha, by simp [z]⟩, h1, h2⟩
  · obtain ⟨a, ha, h⟩ := List.mem_map.mp h
    obtain ⟨a1, a2⟩ := List.mem_filter.mp ha
    have := nd_inj H.ds.nd a1 he h
    subst this
    simp at a2
  · have := H.me
    have c := pend_cut H.ds.ks he
    rw [List.length_nil]
    omega
  · obtain ⟨a, ha, h⟩ := h
    exact H.wi k q ⟨a, (List.mem_filter.mp ha).1, h⟩
theorem while_loop {n0 : Nat} {len size : Int} {n : Nat} {S T : Sto} {st : List Mv} {w : Int} {v : Nat} {ρ : Frm} {N : Nd} (hv : v < 10000000) (h0 : ∀ s, s ∈ st → 0 ≤ s.2) (hi : invW n0 (.lst (st.map pD)) len size n S st w v ρ T)
    (hN : ∀ ρ T fd a b c d e, DS n S fd [] T → Good st size w (fdF fd) (owL []) → (fd.length : Int) = size → ρ = frC n0 (.lst (st.map pD)) len size n a b c d e → N.nx ρ T) :
    OkS (xWhile (fun _ _ => bigFuel) (xCmp gNeE (xVar 4) xNewD) (xSeq (xSet 6 (xCallB gMinK (xCons (xVar 4) xNil))) (xFor (xSeqI (xPop1 (xVar 4) (xVar 6))) (EV.gName 7) (xIfS (xCmp (gIsN false) (xBin gIdx (xVar 5) (xVar 7)) (xC .non)) (xSeq (xSetIx (xVar 5) (xVar 7) (xVar 6)) (xFor (xSeqI (xVar 1)) (gTupT 2 (gConsT (EV.gName 8) (gConsT (EV.gName 9) gNilT))) (xSeq (xSet 10 (xBin gAdd (xVar 7) (xVar 8))) (xIfS (xAnd (xChain (gCmp fun i j => decide (i ≤ j)) (gCmp fun i j => decide (i < j)) (xC (.int 0)) (xVar 10) (xVar 3)) (xCmp (gIsN false) (xBin gIdx (xVar 5) (xVar 10)) (xC .non))) (xExpr (xApp (xSetd (xVar 4) (xBin gAdd (xVar 6) (xVar 9)) (xCel (xLst xNil))) (xVar 10))) xNx)))) xNx))) ρ T) N := by
  unfold xWhile
  refine okS_whileV (fun v' ρ T => v' ≤ v ∧ invW n0 (.lst (st.map pD)) len size n S st w v' ρ T) ?_ _ v ρ T (Nat.lt_of_lt_of_le hv (by show 10000000 ≤ 1000000000; decide)) ⟨Nat.le_refl _, hi⟩
  rintro v' ρ T ⟨hv', fd, L, a, b, c, d, e', H, rfl⟩
  have D1 := H.ds.app (some (.dK []))
  have en : gNeE (.cell (n + 1)) (.cell T.length) (T ++ [some (.dK [])]) = some (.ok (!(L.map La.em).isEmpty), T ++ [some (.dK [])]) := by
    have e2 : dicD (T ++ [some (.dK [])]) (.cell T.length) = some [] := by
      unfold dicD
      try dsimp only
      rw [List.getElem?_append_right (Nat.le_refl _), Nat.sub_self]
      rfl
    unfold gNeE
    rw [dic_at D1, e2]
  simp [frC, en]
  by_cases hL : L = []
  · subst hL
    simp
    exact hN _ _ fd _ _ _ _ _ D1 H.gd H.fl rfl
  · have ne0 : L.map La.k ≠ [] := fun z => hL (List.map_eq_nil_iff.mp z)
    obtain ⟨m, hm⟩ : ∃ m, (L.map La.k).min? = some m := by
      cases z : (L.map La.k).min? with
      | none => exact absurd (List.min?_eq_none_iff.mp z) ne0
      | some m => exact ⟨m, rfl⟩
    obtain ⟨m1, m2⟩ := List.min?_eq_some_iff.mp hm
    obtain ⟨e, he, rfl⟩ := List.mem_map.mp m1
    have eM : gMinK [.cell (n + 1)] (T ++ [some (.dK [])]) = some (.ok (.int e.k), T ++ [some (.dK [])]) := by
      have e1 : (dicD (T ++ [some (.dK [])]) (.cell (n + 1))).bind keysI = some (L.map La.k) := by
        rw [dic_at D1]
        exact keys_em L
      show (match (dicD (T ++ [some (.dK [])]) (.cell (n + 1))).bind keysI with | some is => (match is.min? with | some m => some (Except.ok (EV.D.int m), T ++ [some (Cell.dK [])]) | none => none) | none => none) = _
      rw [e1]
      try dsimp only
      rw [hm]
    obtain ⟨p1, D2⟩ := D1.pop he
    obtain ⟨q1, q2, q3, q4⟩ := D1.cel e he
    generalize hT2 : (T ++ [some (Cell.dK [])]).set (n + 1) (some (.dK ((L.filter fun a => decide (a.k ≠ e.k)).map La.em))) = T2 at p1 D2
    have g1 : T2[e.c]? = (T ++ [some (Cell.dK [])])[e.c]? := by rw [← hT2, List.getElem?_set_ne (Ne.symm q3)]
    have q1' : T2[e.c]? = some (some (.lst (e.ps.map .int))) := g1.trans q1
    have H1 : WI n S st size w v' fd L (T ++ [some (Cell.dK [])]) := ⟨D1, H.gd, H.ne, H.fl, H.wi, H.me⟩
    have LI0 := H1.take he (fun a ha => m2 _ (List.mem_map_of_mem ha)) D2 g1
    simp [hL, eM, popE_of (dic_at D1), p1, seqI_cell q1', q1']
    refine layer_loop (n0 := n0) (len := len) (size := size) (n := n) (S := S) (st := st) (w := w) (c0 := e.k) (cc := e.c) (pp := e.ps) (v := v') (len0 := e.ps.length) (by omega) h0 ⟨e.ps, fd, _, _, _, _, _, rfl, LI0, fun q hq => H.wi e.k q ⟨e, he, rfl, hq⟩, rfl⟩ ?_
    rintro ρ T ⟨rem, fd, L, a, b, c, d, er, H2, hq, rfl⟩
    cases rem with
    | cons _ _ => cases er
    | nil =>
      have hp := List.length_pos_iff.mpr (H.ne e he)
      have hme := H2.me
      simp at hme
      refine ⟨v' - e.ps.length, by omega, by omega, fd, L, _, _, _, _, _, ⟨H2.ds, H2.gd.sub (fun k q h => .inl h) (fun k q h => ?_), H2.ne, H2.fl, H2.wi, by omega⟩, rfl⟩
      rcases h with h | ⟨_, h⟩ | ⟨t, ht, _⟩
      · exact .inl h
      · exact (List.not_mem_nil h).elim
      · exact (List.not_mem_nil ht).elim
end LW

/-! M10: least costs from 0: the def. -/
namespace LW
open PySem PySem.Spec PyProof.Rows L2 EV CT
theorem fld_cell {c i n0 : Nat} {fs : List (Nat × EV.D)} {d : EV.D} {T : Sto} (h : T[n0]? = some (some (.ins c fs))) (hl : fs.lookup i = some d) : gFld c i tcs ats (.cell n0) T = some (.ok d, T) := by
  unfold gFld
  try dsimp only
  rw [h]
  try dsimp only
  rw [if_pos rfl, hl]
theorem rep_one (k : Int) (S : Sto) (h0 : 0 ≤ k) (h1 : k ≤ 1000000) : gRepL (.lst [.non]) (.int k) S = some (.ok (List.replicate k.toNat .non), S) := by
  have e : (List.replicate k.toNat [EV.D.non]).flatten = List.replicate k.toNat .non := by
    generalize k.toNat = m
    induction m with
    | zero => rfl
    | succ m ih => rw [List.replicate_succ, List.flatten_cons, ih, List.replicate_succ]; rfl
  unfold gRepL lstD
  try dsimp only
  rw [if_pos ⟨by omega, by omega, by simp [EV.cap]; omega⟩, e]
theorem fd_start (k : Nat) : fdF (List.replicate k none) = fun _ => none := by
  funext p
  unfold fdF
  split
  · rw [List.getElem?_replicate]
    split <;> rfl
  · rfl
theorem wi_start {S : Sto} {st : List Mv} {size w : Int} (w0 : 0 ≤ w) (ws : w < size) {v : Nat} (hv : 1 + (st.length + 1) * size.toNat ≤ v) :
    WI S.length S st size w v (List.replicate size.toNat none) [⟨0, S.length, [w]⟩] (S ++ [some (Cell.lst [.int w]), some (Cell.dK [(Sum.inl 0, .cell S.length)]), some (Cell.lst (List.replicate size.toNat .non))]) := by
  refine ⟨⟨fun i hi => List.getElem?_append_left hi, by simp, ?_, ?_, fun e he => ?_, by simp, by simp⟩, ?_, fun e he => ?_, by rw [List.length_replicate]; omega, fun k q h => ?_, ?_⟩
  · rw [List.getElem?_append_right (by omega), show S.length + 1 - S.length = 1 by omega]
    rfl
  · rw [List.getElem?_append_right (by omega), show S.length + 2 - S.length = 2 by omega, List.map_replicate]
    rfl
  · rw [List.mem_singleton.mp he]
    refine ⟨?_, Nat.le_refl _, by show S.length ≠ _; omega, by show S.length ≠ _; omega⟩
    rw [List.getElem?_append_right (Nat.le_refl _), Nat.sub_self]
    rfl
  · rw [fd_start]
    refine (Good.start st size w).sub (fun k q h => ?_) (fun k q h => ?_)
    · obtain ⟨e, he, h1, h2⟩ := h
      rw [List.mem_singleton.mp he] at h1 h2
      exact ⟨h1.symm, List.mem_singleton.mp h2⟩
    · exact .inl ⟨_, List.mem_singleton.mpr rfl, h.1.symm, by rw [h.2]; exact List.mem_singleton.mpr rfl⟩
  · rw [List.mem_singleton.mp he]
    exact fun z => nomatch z
  · obtain ⟨e, he, h1, h2⟩ := h
    rw [List.mem_singleton.mp he] at h2
    rw [List.mem_singleton.mp h2]
    exact ⟨w0, ws⟩
  · have : noneN (List.replicate size.toNat none) = size.toNat := by
      unfold noneN
      rw [List.countP_replicate]
      rfl
    rw [this]
    simpa [pend] using hv
theorem slice_best {fd : List (Option Int)} {st : List Mv} {size w len : Int} (g : Good st size w (fdF fd) (owL [])) (h0 : ∀ s, s ∈ st → 0 ≤ s.2) {a b : Int} (ha : ((1 : Int), a) ∈ st) (hb : ((-1 : Int), b) ∈ st) (hs : ∀ s, s ∈ st → -w ≤ s.1 ∧ s.1 ≤ w) (w1 : 1 ≤ w)
    (len0 : 0 ≤ len) (hsz : size = len + 2 * w + 1) (fl : (fd.length : Int) = size) :
    ∃ rs : List Int, cutL (fd.map oD) (some w) (some (w + len + 1)) = rs.map .int ∧ (rs.length : Int) = len + 1 ∧ ∀ i : Nat, (i : Int) ≤ len → ∃ r, rs[i]? = some r ∧ Best st i r := by
  have best : ∀ i : Nat, (i : Int) ≤ len → ∃ c, fdF fd (w + i) = some c ∧ Best st i c := fun i hi =>
    g.best (mx := 0) (fun k q ⟨e, he, _⟩ => (List.not_mem_nil he).elim) h0 ha hb w1 hs (by omega) (by omega)
  refine ⟨(List.range (len.toNat + 1)).map fun i => (fdF fd (w + (i : Nat))).getD 0, ?_, by simp; omega, fun i hi => ?_⟩
  · have e1 : HT.sIx (fd.map oD).length 0 (some w) = w.toNat := by
      unfold HT.sIx
      rw [List.length_map]
      try dsimp only
      rw [if_neg (by omega)]
      omega
    have e2 : HT.sIx (fd.map oD).length (fd.map oD).length (some (w + len + 1)) = (w + len + 1).toNat := by
      unfold HT.sIx
      rw [List.length_map]
      try dsimp only
      rw [if_neg (by omega)]
      omega
    unfold cutL
    rw [e1, e2]
    refine List.ext_getElem? fun i => ?_
    by_cases hi : i < len.toNat + 1
    · obtain ⟨c, hc, _⟩ := best i (by omega)
      rw [List.getElem?_take_of_lt (by omega), List.getElem?_drop, List.getElem?_map, List.getElem?_map, List.getElem?_map, List.getElem?_range hi]
      have hc' := hc
      unfold fdF at hc
      rw [if_pos (by omega), show (w + (i : Int)).toNat = w.toNat + i by omega] at hc
      have hlt : w.toNat + i < fd.length := by omega
      rw [List.getElem?_eq_getElem hlt] at hc ⊢
      simp at hc
      simp [hc, hc', oD]
    · rw [List.getElem?_eq_none (by simp; omega), List.getElem?_eq_none (by simp; omega)]
  · obtain ⟨c, hc, hb'⟩ := best i hi
    refine ⟨c, ?_, hb'⟩
    rw [List.getElem?_map, List.getElem?_range (by omega)]
    simp [hc]
end LW

/-! M11: what a book's sums cost. -/
namespace LW
open PySem PySem.Spec PyProof.Rows L2 EV CT
def invR (d : EV.D) (S : Sto) (U0 : Bd) (bs : List Bd) (ds : List EV.D) (ρ : Frm) (S' : Sto) : Prop := S' = S ∧ ∃ r U x, ds = tris r ∧ (∀ b, b ∈ r → SmB b) ∧ SmB U ∧ r.foldl stepU U = U0 ∧ ρ = [some d, some (tri U), x]
def invT (n0 : Nat) (S : Sto) (d : EV.D) (U : Bd) (bs : List Bd) (ds : List EV.D) (ρ : Frm) (T : Sto) : Prop := ∃ r l x1 x2 x3 x4 x5, ds = tris r ∧ (∀ b, b ∈ r → SmB b) ∧ l ++ red U.w U.m (stB r) = red U.w U.m (stB bs) ∧ l.length + 2 * r.length = 2 * bs.length ∧
  T = S ++ [some (.lst (l.map pD))] ∧ ρ = [some (.cell n0), some d, some (.cell S.length), x1, x2, x3, x4, x5]
end LW

/-! M12: Costs made. -/
namespace LW
open PySem PySem.Spec PyProof.Rows L2 EV CT
theorem cls_last {S : Sto} {c : Nat} {fs : List (Nat × EV.D)} : clsD tcs (S ++ [some (.ins c fs)]) (.cell S.length) = some c := by
  unfold clsD
  try dsimp only
  rw [List.getElem?_append_right (Nat.le_refl _), Nat.sub_self]
  rfl
theorem last_at {S : Sto} {x : Option Cell} : (S ++ [x])[S.length]? = some x := by
  rw [List.getElem?_append_right (Nat.le_refl _), Nat.sub_self]
  rfl
theorem toInts_ints : ∀ ns : List Int, toInts (ns.map EV.D.int) = some ns
  | [] => rfl
  | n :: ns => by
    rw [List.map_cons, toInts, toInts_ints ns]
    rfl
theorem max_ints {ns : List Int} {m : Int} {S : Sto} (h : ns.max? = some m) : gMax1 [.lst (ns.map EV.D.int)] S = some (.ok (.int m), S) := by
  unfold gMax1 intsD lstD
  show (match ((toInts (ns.map EV.D.int)).bind List.max?) with | some m => some (Except.ok (EV.D.int m), S) | none => none) = _
  rw [toInts_ints]
  show (match ns.max? with | some m => some (Except.ok (EV.D.int m), S) | none => none) = _
  rw [h]
/-- what is known of a book's costs -/
structure CostsOk (bs : List Bd) (U : Bd) (w : Int) (rs : List Int) : Prop where
  len : (rs.length : Int) = U.w * w + U.w + 1
  best : ∀ i : Nat, (i : Int) ≤ U.w * w + U.w → ∃ r, rs[i]? = some r ∧ Best (red U.w U.m (stB bs)) i r
/-- cells tell of older cells alone -/
abbrev LowS (S : Sto) : Prop := ∀ k, S.length ≤ k → S.all (lowS k) = true
theorem LowS.of {S : Sto} (h : ∀ k, S.all (lowS k) = true) : LowS S := fun k _ => h k
end LW

/-! M13: the greatest sums. -/
namespace LW
open PySem PySem.Spec PyProof.Rows L2 EV CT
def costD (U : Bd) (w : Int) (xs : List Int) : EV.D := .tup [tri U, .int w, .int (U.w * w), .lst (xs.map .int)]
end LW

/-! M14: a book's greatest sums. -/
namespace LW
open PySem PySem.Spec PyProof.Rows L2 EV CT
theorem CostsOk.uniq {bs : List Bd} {U : Bd} {w : Int} {xs ys : List Int} (h : CostsOk bs U w xs) (h' : CostsOk bs U w ys) : xs = ys := by
  have l1 := h.len
  have l2 := h'.len
  refine List.ext_getElem? fun i => ?_
  by_cases hi : (i : Int) ≤ U.w * w + U.w
  · obtain ⟨r, e1, b1⟩ := h.best i hi
    obtain ⟨r', e2, b2⟩ := h'.best i hi
    rw [e1, e2, b1.uniq b2]
  · rw [List.getElem?_eq_none (by omega), List.getElem?_eq_none (by omega)]
theorem memo_of {t1 : Nat} {cu : EV.D → EV.D} {fE : EX} {fR : EV.D → EX} {ρ : Frm} {S : Sto} {d : EV.D} (h1 : ρ[0]? = some (some (.obj 0 d))) (h2 : fE ρ S = some (.ok (.obj t1 (cu d)), S)) : xMemo t1 cu fE fR ρ S = bndS (fR (.obj t1 (cu d)) ρ S) ρ fun r S2 => some (.rt r S2) := by
  unfold xMemo
  simp [h1, h2]
end LW

/-! M15: the greatest and the least sums of a book, told by its least costs. -/
namespace LW
open PySem PySem.Spec PyProof.Rows L2 EV CT
structure BkOk (bs : List Bd) : Prop where
  ok : BookOk bs
  hd : ∃ lo hi rs, bs = ⟨1, lo, hi⟩ :: rs
  w40 : ∀ b, b ∈ bs → b.w ≤ 40
  len : bs.length ≤ 11
theorem BkOk.bk {bs : List Bd} (h : BkOk bs) : Bk bs := ⟨h.ok.w0, confl_none.mp h.ok.no, h.hd⟩
theorem Sm.neg {i : Int} (h : Sm i) : Sm (-i) := by
  show (-i).natAbs < _
  rw [Int.natAbs_neg]
  exact h
theorem BkOk.tb {bs : List Bd} (h : BkOk bs) : BkOk (bs.map LW.tb) where
  ok := ⟨fun b hb => by
    obtain ⟨a, ha, rfl⟩ := List.mem_map.mp hb
    have := h.ok.sm a ha
    exact ⟨this.1, this.2.2.neg, this.2.1.neg⟩, h.bk.tb.w0, confl_none.mpr h.bk.tb.no⟩
  hd := h.bk.tb.hd
  w40 := fun b hb => by
    obtain ⟨a, ha, rfl⟩ := List.mem_map.mp hb
    exact h.w40 a ha
  len := by rw [List.length_map]; exact h.len
theorem BkOk.lr {bs : List Bd} (h : BkOk bs) {b : Bd} (hb : b ∈ bs) : b.l ≤ b.m :=
  Int.le_of_mul_le_mul_right (h.bk.no b hb b hb) (h.ok.w0 b hb)
theorem BkOk.okR {bs : List Bd} (h : BkOk bs) {b : Bd} (hb : b ∈ bs) : LW.okR b = true := by
  have h1 := h.lr hb
  have h2 := h.ok.w0 b hb
  unfold LW.okR
  simp
  omega
theorem drop1 {xs : List EV.D} {a : EV.D} {S : Sto} : slT (.tup (a :: xs)) (some 1) none S = some (.ok (.tup xs), S) := by
  have e1 : HT.sIx (a :: xs).length 0 (some 1) = 1 := by
    unfold HT.sIx
    simp
  unfold slT
  dsimp only
  rw [e1]
  rw [if_neg (by omega)]
  unfold cutL
  rw [e1]
  have e2 : HT.sIx (a :: xs).length (a :: xs).length none = (a :: xs).length := rfl
  rw [e2]
  simp
theorem lowN : LowS [] := fun _ _ => rfl
end LW

/-! M16: tables of numbers in dicts. -/
namespace LW
open PySem PySem.Spec PyProof.Rows L2 EV CT
def updF (f : Int → Int) (x v : Int) : Int → Int := fun y => if y = x then v else f y
def tot (f : Int → Int) (lo : Int) : Nat → Int
  | 0 => 0
  | n + 1 => f lo + tot f (lo + 1) n
theorem tot_congr {f g : Int → Int} : ∀ {n : Nat} {lo : Int}, (∀ x, lo ≤ x → x < lo + n → f x = g x) → tot f lo n = tot g lo n
  | 0, _, _ => rfl
  | n + 1, lo, h => by
    unfold tot
    rw [h lo (Int.le_refl _) (by omega), tot_congr fun x h1 h2 => h x (by omega) (by omega)]
theorem tot_upd {f : Int → Int} {x v : Int} : ∀ {n : Nat} {lo : Int}, lo ≤ x → x < lo + n → tot (updF f x v) lo n = tot f lo n - f x + v
  | 0, lo, h1, h2 => by omega
  | n + 1, lo, h1, h2 => by
    unfold tot
    by_cases z : x = lo
    · subst z
      have e1 : tot (updF f x v) (x + 1) n = tot f (x + 1) n := tot_congr fun y h3 _ => if_neg (by omega)
      have e2 : updF f x v x = v := if_pos rfl
      rw [e1, e2]
      omega
    · rw [tot_upd (by omega) (by omega)]
      have : updF f x v lo = f lo := if_neg fun y => z y.symm
      rw [this]
      omega
theorem tot_ge {f : Int → Int} {a : Int} : ∀ {n : Nat} {lo : Int}, (∀ x, lo ≤ x → x < lo + n → a ≤ f x) → a * n ≤ tot f lo n
  | 0, _, _ => by simp [tot]
  | n + 1, lo, h => by
    unfold tot
    have h1 := h lo (Int.le_refl _) (by omega)
    have h2 := tot_ge (f := f) (a := a) (n := n) (lo := lo + 1) fun x h1 h2 => h x (by omega) (by omega)
    rw [Int.natCast_add, Int.mul_add]
    omega
theorem tot_le {f : Int → Int} {a : Int} : ∀ {n : Nat} {lo : Int}, (∀ x, lo ≤ x → x < lo + n → f x ≤ a) → tot f lo n ≤ a * n
  | 0, _, _ => by simp [tot]
  | n + 1, lo, h => by
    unfold tot
    have h1 := h lo (Int.le_refl _) (by omega)
    have h2 := tot_le (f := f) (a := a) (n := n) (lo := lo + 1) fun x h1 h2 => h x (by omega) (by omega)
    rw [Int.natCast_add, Int.mul_add]
    omega
/-- a dict of numbers -/
def tabD (f : Int → Int) (lo : Int) : Nat → List (Key × EV.D)
  | 0 => []
  | n + 1 => (.inl lo, .int (f lo)) :: tabD f (lo + 1) n
theorem len_tab (f : Int → Int) : ∀ (n : Nat) (lo : Int), (tabD f lo n).length = n
  | 0, _ => rfl
  | n + 1, lo => by rw [tabD, List.length_cons, len_tab f n]
theorem find_tab {f : Int → Int} {x : Int} : ∀ {n : Nat} {lo : Int}, lo ≤ x → x < lo + n → findK (.inl x) (tabD f lo n) = some (.int (f x))
  | 0, lo, h1, h2 => by omega
  | n + 1, lo, h1, h2 => by
    unfold tabD findK
    by_cases z : lo = x
    · subst z
      rw [if_pos rfl]
    · rw [if_neg fun y => z (Sum.inl.inj y)]
      exact find_tab (by omega) (by omega)
theorem find_tabN {f : Int → Int} {x : Int} : ∀ {n : Nat} {lo : Int}, (x < lo ∨ lo + n ≤ x) → findK (.inl x) (tabD f lo n) = none
  | 0, _, _ => rfl
  | n + 1, lo, h => by
    unfold tabD findK
    rw [if_neg fun y => by have := Sum.inl.inj y; omega]
    exact find_tabN (by omega)
theorem map_tab {f : Int → Int} {x v : Int} : ∀ {n : Nat} {lo : Int}, (tabD f lo n).map (fun p => if p.1 = .inl x then (p.1, EV.D.int v) else p) = tabD (updF f x v) lo n
  | 0, _ => rfl
  | n + 1, lo => by
    rw [tabD, tabD, List.map_cons, map_tab]
    congr 1
    unfold updF
    by_cases z : lo = x
    · subst z; simp
    · have : ¬ (Sum.inl lo : Key) = .inl x := fun y => z (Sum.inl.inj y)
      simp [this, z]
theorem put_tab {f : Int → Int} {x v : Int} {n : Nat} {lo : Int} (h1 : lo ≤ x) (h2 : x < lo + n) : putD (tabD f lo n) (.inl x) (.int v) = tabD (updF f x v) lo n := by
  unfold putD
  rw [find_tab h1 h2, if_pos (by rfl), map_tab]
theorem snoc_tab {f : Int → Int} : ∀ {n : Nat} {lo : Int}, tabD f lo n ++ [(.inl (lo + n), .int (f (lo + n)))] = tabD f lo (n + 1)
  | 0, lo => by simp [tabD]
  | n + 1, lo => by
    have := snoc_tab (f := f) (n := n) (lo := lo + 1)
    rw [tabD, tabD, ← this]
    have e : lo + ((n + 1 : Nat) : Int) = lo + 1 + n := by omega
    rw [e]
    rfl
theorem put_tabN {f : Int → Int} {n : Nat} {lo x : Int} (h : x = lo + n) : putD (tabD f lo n) (.inl x) (.int (f x)) = tabD f lo (n + 1) := by
  unfold putD
  rw [find_tabN (.inr (by omega)), if_neg (by simp), h, snoc_tab]
theorem tab_congr {f g : Int → Int} : ∀ {n : Nat} {lo : Int}, (∀ x, lo ≤ x → x < lo + n → f x = g x) → tabD f lo n = tabD g lo n
  | 0, _, _ => rfl
  | n + 1, lo, h => by
    rw [tabD, tabD, h lo (Int.le_refl _) (by omega), tab_congr fun x h1 h2 => h x (by omega) (by omega)]
theorem low_tab (k : Nat) (f : Int → Int) : ∀ (n : Nat) (lo : Int), ((tabD f lo n).all fun p => D.low k p.2) = true
  | 0, _ => rfl
  | n + 1, lo => by
    rw [tabD, List.all_cons, low_tab k f n]
    rfl
theorem get_tab {f : Int → Int} {x lo : Int} {n c : Nat} {S : Sto} (h : S[c]? = some (some (.dK (tabD f lo n)))) (h1 : lo ≤ x) (h2 : x < lo + n) : getKD (.cell c) (.int x) S = some (.ok (.int (f x)), S) := by
  have : dicD S (.cell c) = some (tabD f lo n) := by
    unfold dicD
    dsimp only
    rw [h]
  unfold getKD
  rw [this]
  dsimp only
  rw [find_tab h1 h2]
theorem putKD_last {P : Sto} {ks : List (Key × EV.D)} {i : Int} {v : EV.D} (h : ks.length < 16000000) : putKD (.cell P.length) (.int i) v (P ++ [some (.dK ks)]) = some (.ok .non, P ++ [some (.dK (putD ks (.inl i) v))]) := by
  unfold putKD
  dsimp only
  rw [last_at]
  dsimp only
  rw [if_pos (show ks.length < cap from h), List.set_append_right _ _ (Nat.le_refl _), Nat.sub_self]
  rfl
/-- a table of ways -/
structure Tab (st : List Mv) (B : Int) (f : Int → Int) : Prop where
  real : ∀ x, -B ≤ x → x ≤ B → Way st x (f x)
  zero : f 0 ≤ 0
def Closed (s : Mv) (B : Int) (f : Int → Int) : Prop := ∀ x, -B ≤ x → x ≤ B → -B ≤ x - s.1 → x - s.1 ≤ B → f x ≤ f (x - s.1) + s.2
theorem Tab.upd {st : List Mv} {B : Int} {f : Int → Int} (T : Tab st B f) {s : Mv} (hs : s ∈ st) {x : Int} (h1 : -B ≤ x - s.1) (h2 : x - s.1 ≤ B) (h3 : f (x - s.1) + s.2 < f x) : Tab st B (updF f x (f (x - s.1) + s.2)) where
  real := fun y y1 y2 => by
    unfold updF
    by_cases z : y = x
    · rw [if_pos z, z]
      have := (T.real _ h1 h2).step hs
      have e : x - s.1 + s.1 = x := by omega
      rwa [e] at this
    · rw [if_neg z]; exact T.real y y1 y2
  zero := by
    unfold updF
    by_cases z : 0 = x
    · rw [if_pos z]
      have := T.zero
      rw [z] at this
      omega
    · rw [if_neg z]; exact T.zero
/-- a table that no step makes less is that of the least costs -/
theorem Tab.best {bs : List Bd} {B w far : Int} {f : Int → Int} (h : Bk bs) (T : Tab (stB bs) B f) (C : ∀ s, s ∈ stB bs → Closed s B f) (hw : ∀ b, b ∈ bs → b.w ≤ w) (w1 : 1 ≤ w) (hB : far + w ≤ B) {n : Int} (n1 : -far ≤ n) (n2 : n ≤ far) : f n = gs bs n := by
  refine (gs_of (table_best (w := w) (lo := -B) (hi := B) (fun s hs => ?_) w1 (fun x s hs a b c d => ?_) T.zero ?_ (T.real n (by omega) (by omega)))).symm
  · obtain ⟨b, hb, rfl | rfl⟩ := mem_stB.mp hs
    · have := hw b hb
      have := h.w0 b hb
      show -w ≤ b.w ∧ b.w ≤ w
      omega
    · have := hw b hb
      have := h.w0 b hb
      show -w ≤ -b.w ∧ -b.w ≤ w
      omega
  · have := C s hs (x + s.1) c d (by omega) (by omega)
    have e : x + s.1 - s.1 = x := by omega
    rwa [e] at this
  · by_cases z : 0 ≤ n
    · exact .inl ⟨z, by omega, by omega⟩
    · exact .inr ⟨by omega, by omega, by omega⟩
/-- .. and none is below some number -/
theorem Tab.ge {bs : List Bd} {B : Int} {f : Int → Int} (h : Bk bs) (hm : ∀ b, b ∈ bs → b.m.natAbs ≤ 1000) (T : Tab (stB bs) B f) {x : Int} (x1 : -B ≤ x) (x2 : x ≤ B) : -1000 * B ≤ f x := by
  obtain ⟨U, hU, u0, hU2⟩ := h.share
  have q := way_ge (h.stepsC hU2) (T.real x x1 x2)
  have b0 : 0 ≤ B := by omega
  have q1 : (U.m * x).natAbs ≤ 1000 * B.toNat := abs_mul_le (hm U hU) (by omega)
  by_cases z : f x < 0
  · have q2 : U.w * f x ≤ 1 * f x := by
      have := Int.mul_le_mul_of_nonneg_right (show (1 : Int) ≤ U.w by omega) (show 0 ≤ -f x by omega)
      rw [Int.mul_neg, Int.mul_neg] at this
      omega
    omega
  · omega
end LW

/-! M17: the law's own costs. -/
namespace LW
open PySem PySem.Spec PyProof.Rows L2 EV CT
end LW

/-! M18: small ones: kinds as books, how great sums are, lists of draws. -/
namespace LW
open PySem PySem.Spec PyProof.Rows L2 EV CT
theorem Kd.bkOk {wide often lo hi : Int} {rs : List Bd} (K : Kd wide often lo hi rs) (hw : wide ≤ 40) (ho : often ≤ 10) : BkOk (⟨1, lo, hi⟩ :: rs) where
  ok := K.book (by omega)
  hd := ⟨lo, hi, rs, rfl⟩
  w40 := fun b hb => by
    obtain ⟨u, v, _, _, _, _, hr⟩ := K.ex
    rcases List.mem_cons.mp hb with z | z
    · rw [z]; show (1 : Int) ≤ 40; decide
    · have := (hr b z).2.1; omega
  len := by
    have := K.ln
    simp
    omega
theorem Kd.days {wide often lo hi : Int} {rs : List Bd} (K : Kd wide often lo hi rs) : lo.natAbs ≤ 20 ∧ hi.natAbs ≤ 20 := by
  have := K.lo0
  have := K.lh
  have := K.hi0
  omega
theorem Kd.most {wide often lo hi : Int} {rs : List Bd} (K : Kd wide often lo hi rs) (hw : wide ≤ 40) : ∀ b, b ∈ rs → b.m.natAbs ≤ 1000 := fun b hb => (K.sm (by omega) b hb).2.2.1
theorem line_le {lo hi n : Int} {M : Nat} (h1 : lo.natAbs ≤ M) (h2 : hi.natAbs ≤ M) : (if 0 ≤ n then n * hi else n * lo) ≤ (n.natAbs * M : Nat) := by
  split
  · have := abs_mul_le (i := n) (j := hi) (Nat.le_refl _) h2
    omega
  · have := abs_mul_le (i := n) (j := lo) (Nat.le_refl _) h1
    omega
/-- how great sums are -/
theorem gs_abs {lo hi n : Int} {rs : List Bd} {M : Nat} (h : Bk (⟨1, lo, hi⟩ :: rs)) (h1 : lo.natAbs ≤ M) (h2 : hi.natAbs ≤ M) : (gs (⟨1, lo, hi⟩ :: rs) n).natAbs ≤ n.natAbs * M := by
  have a := h.way (way_line (lo := lo) (hi := hi) (rs := rs) n)
  have b := h.way (way_line (lo := lo) (hi := hi) (rs := rs) (-n))
  have c := h.neg n
  have d := line_le (n := n) h1 h2
  have e := line_le (n := -n) h1 h2
  rw [Int.natAbs_neg] at e
  omega
theorem gs_sm {lo hi n : Int} {rs : List Bd} (h : Bk (⟨1, lo, hi⟩ :: rs)) (h1 : lo.natAbs ≤ 2 ^ 200) (h2 : hi.natAbs ≤ 2 ^ 200) (hn : n.natAbs ≤ 2 ^ 200) : Sm (gs (⟨1, lo, hi⟩ :: rs) n) :=
  Sm.of (Nat.le_trans (gs_abs h h1 h2) (Nat.mul_le_mul_right _ hn)) (by decide +kernel)
theorem lcE_tris {gs : EV.D → Frm → Sto → Option Frm} {ts : ET} {es : EX} {ρ : Frm} {S : Sto} (f : Bd → EV.D) (rs : List Bd) (h : rs.length ≤ 16000000)
    (hs : ∀ d, d ∈ rs → ∃ ρ1, gs (tri d) ρ S = some ρ1 ∧ ts ρ1 S = some (.ok true, S) ∧ es ρ1 S = some (.ok (f d), S)) : lcE gs ts es ρ (tris rs, fun _ => True) S = some (.ok (rs.map f), S) := lcE_map tri f rs h trivial hs
theorem cut2 {a b : EV.D} {l : List EV.D} : cutL (a :: b :: l) none (some 2) = [a, b] := by
  have e1 : HT.sIx (a :: b :: l).length (a :: b :: l).length (some 2) = 2 := by
    unfold HT.sIx
    simp
  unfold cutL
  rw [e1]
  rfl
theorem okE_if {α : Type} {c : Prop} [Decidable c] {a : α} {S : Sto} {Q : α → Sto → Prop} {X : Er → Sto → Prop} (h : c) (q : Q a S) : OkE (if c then some (.ok a, S) else none) Q X := by
  rw [if_pos h]
  exact q
/-- numbers drawn into a list -/
theorem lcE_draws {n m p c j : Nat} {k : Int} {P E : Sto} {ρ : Frm} {es : EX} {g : Sto → Prop} {lo : Int} {Q : List EV.D → Sto → Prop} {X : Er → Sto → Prop} (h : PS n (m + c) P) (hp : p < n) (hk : 0 < k) (hk2 : k < 2 ^ 4000) (hc : c ≤ 1000) (hg : ∀ S, g S)
    (he : ∀ d S, es (ρ.set j (some d)) S = f_Ldraw [.cell p, .int k] S) (q : ∀ (is : List Int) (P' : Sto), is.length = c → (∀ i, i ∈ is → 0 ≤ i ∧ i < k) → PS n m P' → Q (is.map .int) (P' ++ E)) :
    OkE (lcE (gName j) xYes es ρ (rangeD lo c, g) (P ++ E)) Q X := by
  obtain ⟨zs, S2, e, P', is, rfl, e2, e3, e4, e5⟩ := ok_lcLoop (g := g) (gs := gName j) (ts := xYes) (es := es) (ρ := ρ) (fun ds ys S => ∃ (P' : Sto) (is : List Int), S = P' ++ E ∧ ys = is.map .int ∧ ys.length + ds.length = c ∧ (∀ i, i ∈ is → 0 ≤ i ∧ i < k) ∧ PS n (m + ds.length) P')
    (fun d ds ys S ⟨P', is, e1, e2, e3, e4, e5⟩ => by
      subst e1
      refine ⟨hg _, _, rfl, ?_⟩
      simp only [u_yes, okE_ok]
      refine ⟨fun _ => ?_, fun z => by cases z⟩
      rw [he]
      refine draw_e (m := m + ds.length) (e5.mono (by simp; omega)) hp hk hk2 fun r P'' r0 r1 h' => ?_
      refine ⟨P'', is ++ [r], rfl, by rw [e2]; simp, by simp at e3 ⊢; omega, fun i hi => ?_, h'⟩
      rcases List.mem_append.mp hi with z | z
      · exact e4 i z
      · rw [List.mem_singleton.mp z]; exact ⟨r0, r1⟩) (fun _ _ _ => hg _)
    (rangeD lo c) [] (P ++ E) ⟨P, [], rfl, rfl, by simp [rangeD], fun _ hi => (List.not_mem_nil hi).elim, h.mono (by simp [rangeD])⟩
  rw [List.nil_append] at e2 e3
  unfold lcE
  rw [if_pos (show (rangeD lo c).length ≤ cap by simp [rangeD]; unfold cap; omega), e]
  show Q zs (P' ++ E)
  rw [e2]
  refine q is P' ?_ e4 (by simpa using e5)
  simp [e2] at e3
  omega
end LW

/-! M19: what books tell: rules kept, rules left, the same rows. -/
namespace LW
open PySem PySem.Spec PyProof.Rows L2 EV CT
theorem BkOk.sub {b0 : Bd} {rs rs' : List Bd} (h : BkOk (b0 :: rs)) (hm : ∀ b, b ∈ rs' → b ∈ rs) (hl : rs'.length ≤ 10) : BkOk (b0 :: rs') := by
  have hm' : ∀ b, b ∈ b0 :: rs' → b ∈ b0 :: rs := fun b hb => by
    rcases List.mem_cons.mp hb with z | z
    · rw [z]; exact List.mem_cons_self ..
    · exact List.mem_cons_of_mem _ (hm b z)
  have no := confl_none.mp h.ok.no
  refine ⟨⟨fun b hb => h.ok.sm b (hm' b hb), fun b hb => h.ok.w0 b (hm' b hb), confl_none.mpr fun a ha b hb => no a (hm' a ha) b (hm' b hb)⟩, ?_, fun b hb => h.w40 b (hm' b hb), by simp; omega⟩
  obtain ⟨lo, hi, r, e⟩ := h.hd
  cases e
  exact ⟨lo, hi, rs', rfl⟩
theorem BkOk.erase {b0 : Bd} {rs : List Bd} (h : BkOk (b0 :: rs)) (i : Nat) : BkOk (b0 :: rs.eraseIdx i) :=
  h.sub (fun b hb => List.mem_of_mem_eraseIdx hb) (by
    have := h.len
    have := List.length_eraseIdx_le rs i
    simp at *
    omega)
/-- a comprehension with a test -/
theorem zip_erase {α : Type} : ∀ (rs : List α) (k i : Nat), ((rs.zipIdx k).filter fun p => decide (¬ (p.2 : Int) = (k + i : Nat))).map Prod.fst = rs.eraseIdx i
  | [], k, i => rfl
  | a :: rs, k, 0 => by
    have e : ∀ (l : List α) (j : Nat), k < j → ((l.zipIdx j).filter fun p => decide (¬ (p.2 : Int) = (k + 0 : Nat))).map Prod.fst = l := by
      intro l
      induction l with
      | nil => exact fun _ _ => rfl
      | cons b l ih =>
        intro j hj
        rw [List.zipIdx_cons, List.filter_cons_of_pos (by simp; omega), List.map_cons, ih (j + 1) (by omega)]
    rw [List.zipIdx_cons, List.filter_cons_of_neg (by simp), e rs (k + 1) (by omega)]
    rfl
  | a :: rs, k, i + 1 => by
    rw [List.zipIdx_cons, List.filter_cons_of_pos (by simp; omega), List.map_cons]
    have := zip_erase rs (k + 1) i
    rw [show k + 1 + i = k + (i + 1) by omega] at this
    rw [this]
    rfl
/-- the rule o is kept by all rows of a book -/
noncomputable def keepsB (bs : List Bd) (o : Bd) : Bool := decide (o.l ≤ -gs bs (-o.w)) && decide (gs bs o.w ≤ o.m)
/-- the rules that are left, from the number i on downwards -/
noncomputable def leftL (b0 : Bd) : Nat → List Bd → List Bd
  | 0, rs => rs
  | i + 1, rs => if h : i < rs.length then leftL b0 i (if keepsB (b0 :: rs.eraseIdx i) rs[i] then rs.eraseIdx i else rs) else leftL b0 i rs
theorem all_bls (bs : List Bool) (S : Sto) : gAll [.lst (bs.map .bl)] S = some (.ok (.bl (bs.all id)), S) := by
  have e : ∀ bs : List Bool, toBls (bs.map EV.D.bl) = some bs := by
    intro bs
    induction bs with
    | nil => rfl
    | cons n ns ih => rw [List.map_cons, toBls, ih]; rfl
  unfold gAll
  dsimp only [lstD, Option.bind_some]
  rw [e]
noncomputable def sameB (as bs : List Bd) : Bool := (bs.all fun o => keepsB as o) && as.all fun o => keepsB bs o
end LW

/-! M20: fractions by the law; shares as bounds. -/
namespace LW
open PySem PySem.Spec PyProof.Rows L2 EV CT
/-- the strictest bounds as shares -/
theorem Shr.upB {b0 : Bd} {rs : List Bd} (B : Bk (b0 :: rs)) : rs.foldl stepU b0 ∈ b0 :: rs ∧ Shr (b0 :: rs) (rs.foldl stepU b0).w (rs.foldl stepU b0).m := by
  have eU := foldU_spec rs b0 (B.w0 b0 (List.mem_cons_self ..)) (fun b hb => B.w0 b (List.mem_cons_of_mem _ hb))
  have hU : rs.foldl stepU b0 ∈ b0 :: rs := List.mem_cons.mpr eU.1
  have mU : ∀ b, b ∈ b0 :: rs → (rs.foldl stepU b0).m * b.w ≤ b.m * (rs.foldl stepU b0).w := List.forall_mem_cons.mpr eU.2
  exact ⟨hU, B.w0 _ hU, fun b hb => ⟨B.no b hb _ hU, mU b hb⟩⟩
theorem Shr.loB {b0 : Bd} {rs : List Bd} (B : Bk (b0 :: rs)) : rs.foldl stepL b0 ∈ b0 :: rs ∧ Shr (b0 :: rs) (rs.foldl stepL b0).w (rs.foldl stepL b0).l := by
  have eL := foldL_spec rs b0 (B.w0 b0 (List.mem_cons_self ..)) (fun b hb => B.w0 b (List.mem_cons_of_mem _ hb))
  have hL : rs.foldl stepL b0 ∈ b0 :: rs := List.mem_cons.mpr eL.1
  have mL : ∀ b, b ∈ b0 :: rs → b.l * (rs.foldl stepL b0).w ≤ (rs.foldl stepL b0).l * b.w := List.forall_mem_cons.mpr eL.2
  exact ⟨hL, B.w0 _ hL, fun b hb => ⟨mL b hb, B.no _ hL b hb⟩⟩
/-- parts of a fraction in lowest terms -/
theorem low_mul {x y t b : Int} (hb : 0 < b) : x * (b / (Int.gcd t b : Int)) = y * (t / (Int.gcd t b : Int)) ↔ x * b = y * t := by
  have g0 : 0 < (Int.gcd t b : Int) := by
    have := Int.gcd_pos_of_ne_zero_right t (show b ≠ 0 by omega)
    omega
  obtain ⟨p, hp⟩ := Int.gcd_dvd_left (a := t) (b := b)
  obtain ⟨q, hq⟩ := Int.gcd_dvd_right (a := t) (b := b)
  generalize (Int.gcd t b : Int) = g at *
  subst hp
  subst hq
  rw [Int.mul_ediv_cancel_left _ (by omega), Int.mul_ediv_cancel_left _ (by omega), Int.mul_left_comm, Int.mul_left_comm y]
  constructor
  · intro h; rw [h]
  · intro h; exact Int.eq_of_mul_eq_mul_left (by omega) h
theorem low_mul_le {x y t b : Int} (hb : 0 < b) : x * (b / (Int.gcd t b : Int)) ≤ y * (t / (Int.gcd t b : Int)) ↔ x * b ≤ y * t := by
  have g0 : 0 < (Int.gcd t b : Int) := by
    have := Int.gcd_pos_of_ne_zero_right t (show b ≠ 0 by omega)
    omega
  obtain ⟨p, hp⟩ := Int.gcd_dvd_left (a := t) (b := b)
  obtain ⟨q, hq⟩ := Int.gcd_dvd_right (a := t) (b := b)
  generalize (Int.gcd t b : Int) = g at *
  subst hp
  subst hq
  rw [Int.mul_ediv_cancel_left _ (by omega), Int.mul_ediv_cancel_left _ (by omega), Int.mul_left_comm, Int.mul_left_comm y]
  exact ⟨fun h => Int.mul_le_mul_of_nonneg_left h (by omega), fun h => Int.le_of_mul_le_mul_left h g0⟩
theorem low_mul_ge {x y t b : Int} (hb : 0 < b) : y * (t / (Int.gcd t b : Int)) ≤ x * (b / (Int.gcd t b : Int)) ↔ y * t ≤ x * b := by
  have g0 : 0 < (Int.gcd t b : Int) := by
    have := Int.gcd_pos_of_ne_zero_right t (show b ≠ 0 by omega)
    omega
  obtain ⟨p, hp⟩ := Int.gcd_dvd_left (a := t) (b := b)
  obtain ⟨q, hq⟩ := Int.gcd_dvd_right (a := t) (b := b)
  generalize (Int.gcd t b : Int) = g at *
  subst hp
  subst hq
  rw [Int.mul_ediv_cancel_left _ (by omega), Int.mul_ediv_cancel_left _ (by omega), Int.mul_left_comm, Int.mul_left_comm x]
  exact ⟨fun h => Int.mul_le_mul_of_nonneg_left h (by omega), fun h => Int.le_of_mul_le_mul_left h g0⟩
theorem frac_one {x b : Int} (hb : 0 < b) : frac (x * b) b = .tup [.int x, .int 1] := by
  have e : (Int.gcd (x * b) b : Int) = b := by
    rw [Int.gcd_comm, Int.gcd_mul_left_right]
    omega
  unfold frac
  rw [e, Int.mul_ediv_cancel _ (by omega), Int.ediv_self (by omega)]
end LW

/-! M21: lists of days that stand. -/
namespace LW
open PySem PySem.Spec PyProof.Rows L2 EV CT
theorem len_seq {d : EV.D} {xs : List EV.D} {S : Sto} (h : seqD S d = some xs) : gLen [d] S = some (.ok (.int (xs.length : Nat)), S) := by
  unfold gLen
  dsimp only
  rw [h]
theorem ix_seq {d a : EV.D} {xs : List EV.D} {S : Sto} {k : Nat} (h : seqD S d = some xs) (e : xs[k]? = some a) : gIdx d (.int (k : Nat)) S = some (.ok a, S) := by
  unfold gIdx
  dsimp only
  rw [h]
  dsimp only
  rw [ix_lt (List.getElem?_eq_some_iff.mp e).1 e]
theorem en_seq {d : EV.D} {xs : List EV.D} {S : Sto} (h : seqD S d = some xs) : enI [d] S = some (.ok (enumD xs, stays S d), S) := by
  unfold enI
  dsimp only
  rw [h]
theorem stays_refl (S : Sto) (d : EV.D) : stays S d S := by
  cases d <;> first | trivial | rfl
theorem sl_take {d : EV.D} {xs : List EV.D} {S : Sto} {k : Nat} (h : seqD S d = some xs) (ht : ∀ xs, d ≠ .tup xs) (hk : k ≤ xs.length) : slL d none (some (k : Nat)) S = some (.ok (xs.take k), S) := by
  unfold slL
  cases d with
  | tup ys => exact absurd rfl (ht ys)
  | _ =>
    dsimp only
    rw [h]
    dsimp only
    unfold cutL
    rw [HT.sIx_nat, Nat.min_eq_left hk]
    rfl
theorem ints_get {is : List Int} {k : Nat} (h : k < is.length) : (is.map EV.D.int)[k]? = some (.int is[k]) := by
  rw [List.getElem?_map, List.getElem?_eq_getElem h]
  rfl
theorem fits_all {bs : List Bd} (B : Bk bs) {is : List Int} : Fits bs is ↔ ∀ (i : Nat) (h : i < is.length), FitsN bs (is.take i) is[i] := by
  constructor
  · intro h i hi
    have := h.take (i + 1)
    rw [List.take_succ_eq_append_getElem hi] at this
    exact ((fits_snoc B).mp this).2
  · intro h
    have key : ∀ k : Nat, k ≤ is.length → Fits bs (is.take k) := by
      intro k
      induction k with
      | zero => intro _; exact fits_nil B
      | succ k ih =>
        intro hk
        rw [List.take_succ_eq_append_getElem (by omega)]
        exact (fits_snoc B).mpr ⟨ih (by omega), h k (by omega)⟩
    have := key is.length (Nat.le_refl _)
    rwa [List.take_length] at this
open Classical in
/-- the index of the first day with which a list does not fit -/
noncomputable def lostF (bs : List Bd) (is : List Int) (p : Int × Nat) : Option EV.D := if FitsN bs (is.take p.2) p.1 then none else some (.int (p.2 : Nat))
noncomputable def lostD (bs : List Bd) (is : List Int) : Option EV.D := is.zipIdx.findSome? (lostF bs is)
theorem lost_none {bs : List Bd} (B : Bk bs) {is : List Int} : lostD bs is = none ↔ Fits bs is := by
  unfold lostD
  rw [List.findSome?_eq_none_iff, fits_all B]
  constructor
  · intro h i hi
    have m : (is[i], i) ∈ is.zipIdx := List.mk_mem_zipIdx_iff_getElem?.mpr (List.getElem?_eq_getElem hi)
    have := h _ m
    unfold lostF at this
    split at this
    · assumption
    · cases this
  · intro h p hp
    obtain ⟨x, i⟩ := p
    have e := List.mk_mem_zipIdx_iff_getElem?.mp hp
    obtain ⟨hi, e⟩ := List.getElem?_eq_some_iff.mp e
    unfold lostF
    rw [if_pos]
    have := h i hi
    rwa [e] at this
theorem lost_some {bs : List Bd} {is : List Int} {d : EV.D} (h : lostD bs is = some d) : ∃ i : Nat, d = .int (i : Nat) := by
  unfold lostD at h
  obtain ⟨p, _, h2⟩ := List.exists_of_findSome?_eq_some h
  unfold lostF at h2
  split at h2
  · cases h2
  · cases h2
    exact ⟨p.2, rfl⟩
theorem enum_ints (is : List Int) : enumD (is.map .int) = is.zipIdx.map fun p => .tup [.int (p.2 : Nat), .int p.1] := by
  unfold enumD
  rw [List.zipIdx_map, List.map_map]
  rfl
open Classical in
open Classical in
theorem cat_seq {x y : EV.D} {xs ys : List EV.D} {S : Sto} (h1 : lstD S x = some xs) (h2 : lstD S y = some ys) (h : xs.length + ys.length ≤ 16000000) : gCat x y S = some (.ok (xs ++ ys), S) := by
  unfold gCat
  rw [h1, h2]
  exact if_pos h
theorem lst_cell {n : Nat} {xs : List EV.D} {S : Sto} (h : S[n]? = some (some (.lst xs))) : lstD S (.cell n) = some xs := by
  unfold lstD
  dsimp only
  rw [h]
theorem seq_cell {n : Nat} {xs : List EV.D} {S : Sto} (h : S[n]? = some (some (.lst xs))) : seqD S (.cell n) = some xs := by
  unfold seqD
  dsimp only
  rw [h]
theorem list_seq {d : EV.D} {xs : List EV.D} {S : Sto} (h : seqD S d = some xs) : gList [d] S = some (.ok xs, S) := by
  unfold gList
  dsimp only
  rw [h]
/-- a cell's list against a list -/
theorem eq_cell {neg : Bool} {n k : Nat} {xs : List EV.D} {S : Sto} (h : S[n]? = some (some (.lst xs))) (hn : num k (.lst xs)) (hk : k ≤ 64) : gEq neg (.cell n) (.lst xs) S = some (.ok (!neg), S) := by
  have e := gEq_refl (neg := neg) (S := S) hn hk
  have e1 : toPc S (.cell n) = toPc S (.lst xs) := by
    show (match S[n]? with | some (some (.lst xs)) => (toPs xs).map PyData.list | _ => none) = toP (.lst xs)
    rw [h]
    rfl
  have e2 : gEq neg (.cell n) (.lst xs) S = gEqD neg (.cell n) (.lst xs) S := rfl
  have e3 : gEq neg (.lst xs) (.lst xs) S = gEqD neg (.lst xs) (.lst xs) S := rfl
  rw [e2]
  rw [e3] at e
  unfold gEqD at e ⊢
  rw [e1]
  exact e
theorem nums_ints {is : List Int} (h : ∀ i, i ∈ is → Sm i) : num 1 (.lst (is.map .int)) := ⟨by decide, nums_iff.mpr fun x hx => by
  obtain ⟨i, hi, rfl⟩ := List.mem_map.mp hx
  exact h i hi⟩
end LW

/-! M22: shares that are drawn. -/
namespace LW
open PySem PySem.Spec PyProof.Rows L2 EV CT
end LW

/-! M23: lost days by the law; even rows by the law. -/
namespace LW
open PySem PySem.Spec PyProof.Rows L2 EV CT
theorem fitsN_last {bs : List Bd} {is : List Int} {v : Int} : FitsN bs is v ↔ ∀ j : Nat, j ≤ is.length → -gs bs (-((j : Int) + 1)) ≤ v + lastS is j ∧ v + lastS is j ≤ gs bs ((j : Int) + 1) := by
  rw [fitsN_iff, nbL_le, nbH_ge]
  constructor
  · rintro ⟨h1, h2⟩ j hj
    have := h1 j hj
    have := h2 j hj
    omega
  · intro h
    exact ⟨fun j hj => by have := h j hj; omega, fun j hj => by have := h j hj; omega⟩
/-- what is known of the first lost day -/
theorem lost_at {bs : List Bd} (B : Bk bs) {is : List Int} {d : EV.D} (h : lostD bs is = some d) : ∃ i : Nat, d = .int (i : Nat) ∧ i < is.length ∧ Fits bs (is.take i) := by
  unfold lostD at h
  obtain ⟨l1, p, l2, e, h1, h2⟩ := List.findSome?_eq_some_iff.mp h
  have key : ∀ (j : Nat) (hj : j < is.length), is.zipIdx[j]? = some (is[j], j) := fun j hj => by
    rw [List.getElem?_zipIdx, List.getElem?_eq_getElem hj]
    simp
  have ll : l1.length < is.length := by
    have := congrArg List.length e
    simp at this
    omega
  have ep : p = (is[l1.length], l1.length) := by
    have := key l1.length ll
    rw [e, List.getElem?_append_right (Nat.le_refl _), Nat.sub_self] at this
    exact Option.some.inj this
  refine ⟨l1.length, ?_, ll, (fits_all B).mpr fun j hj => ?_⟩
  · rw [ep] at h1
    unfold lostF at h1
    split at h1
    · cases h1
    · exact (Option.some.inj h1).symm
  · have hj' : j < l1.length := by rw [List.length_take] at hj; omega
    have m : (is[j]'(by omega), j) ∈ l1 := by
      have := key j (by omega)
      rw [e, List.getElem?_append_left hj'] at this
      exact List.mem_of_getElem? this
    have q := h2 _ m
    unfold lostF at q
    split at q
    · rename_i z
      rw [List.take_take, Nat.min_eq_left (by omega), List.getElem_take]
      exact z
    · cases q
/-- days that fit are days of the book -/
theorem Fits.day {bs : List Bd} {is : List Int} (h : Fits bs is) {x : Int} (hx : x ∈ is) : -gs bs (-1) ≤ x ∧ x ≤ gs bs 1 := by
  obtain ⟨i, hi, rfl⟩ := List.mem_iff_getElem.mp hx
  have h1 := h i (i + 1) (by omega) (by omega)
  have h2 := h (i + 1) i (by omega) (by omega)
  rw [pre_succ hi] at h1 h2
  rw [show ((i + 1 : Nat) : Int) - i = 1 by omega] at h1
  rw [show (i : Int) - ((i + 1 : Nat) : Int) = -1 by omega] at h2
  omega
theorem zip_range (is : List Int) : rangeD 0 is.length = is.zipIdx.map fun p => EV.D.int (p.2 : Nat) := by
  have h1 : is.zipIdx.map Prod.snd = List.range is.length := by rw [List.zipIdx_map_snd, List.range_eq_range']
  unfold rangeD
  rw [← h1, List.map_map]
  refine List.map_congr_left fun p _ => ?_
  simp
end LW

/-! M24: lengths that are drawn; books scaled; sums by the law. -/
namespace LW
open PySem PySem.Spec PyProof.Rows L2 EV CT
theorem BkOk.sc {bs : List Bd} (h : BkOk bs) {f s : Int} (hf : 0 < f) (f1 : f.natAbs ≤ 2 ^ 110) (s1 : s.natAbs ≤ 2 ^ 110) (hb : ∀ b, b ∈ bs → b.l.natAbs ≤ 1000 ∧ b.m.natAbs ≤ 1000) : BkOk (bs.map (scB f s)) where
  ok := ⟨fun b hb' => by
    obtain ⟨a, ha, rfl⟩ := List.mem_map.mp hb'
    have w40 := h.w40 a ha
    have w0 := h.ok.w0 a ha
    have b1 := abs_mul_le f1 (hb a ha).1
    have b2 := abs_mul_le f1 (hb a ha).2
    have b3 : (a.w * s).natAbs ≤ 40 * 2 ^ 110 := abs_mul_le (by omega) s1
    exact ⟨h.ok.sm a ha |>.1, Sm.of (n := 2 ^ 110 * 1000 + 40 * 2 ^ 110) (by show (f * a.l + a.w * s).natAbs ≤ _; omega) (by decide +kernel), Sm.of (n := 2 ^ 110 * 1000 + 40 * 2 ^ 110) (by show (f * a.m + a.w * s).natAbs ≤ _; omega) (by decide +kernel)⟩, (h.bk.sc hf s).w0, confl_none.mpr (h.bk.sc hf s).no⟩
  hd := (h.bk.sc hf s).hd
  w40 := fun b hb' => by
    obtain ⟨a, ha, rfl⟩ := List.mem_map.mp hb'
    exact h.w40 a ha
  len := by rw [List.length_map]; exact h.len
theorem low_bk (k : Nat) (bs : List Bd) : D.low k (LW.bk bs) = true := rfl
end LW

/-! M25: small books' lists, gone through by the law. -/
namespace LW
open PySem PySem.Spec PyProof.Rows L2 EV CT
def letB (bs : List Bd) (is : List Int) : Bool := bs.all fun b => (List.range (is.length + 1 - b.w.toNat)).all fun s => decide (b.l ≤ pre is (s + b.w.toNat) - pre is s) && decide (pre is (s + b.w.toNat) - pre is s ≤ b.m)
theorem letB_iff {bs : List Bd} {is : List Int} : letB bs is = true ↔ Let bs is := by
  unfold letB Let
  simp only [List.all_eq_true, List.mem_range, Bool.and_eq_true, decide_eq_true_eq]
  constructor
  · intro h b hb s hs
    exact h b hb s (by omega)
  · intro h b hb s hs
    exact h b hb s (by omega)
theorem cut_mid {α : Type} {xs : List α} {s e : Nat} (he : e ≤ xs.length) (hs : s ≤ e) : cutL xs (some (s : Int)) (some (e : Int)) = (xs.drop s).take (e - s) := by
  unfold cutL
  rw [HT.sIx_nat, HT.sIx_nat, Nat.min_eq_left (show s ≤ xs.length by omega), Nat.min_eq_left he]
theorem sum_ints' {is : List Int} {S : Sto} : gSum [.lst (is.map .int)] S = some (.ok (.int is.sum), S) := by
  unfold gSum intsD
  simp [lstD]
theorem sum_mid {is : List Int} {s w : Nat} : ((is.drop s).take w).sum = pre is (s + w) - pre is s := by
  unfold pre
  rw [List.take_add, List.sum_append]
  omega
abbrev lsD (is : List Int) : EV.D := .lst (is.map .int)
/-- lists of whole numbers as data -/
abbrev lsP (is : List Int) : PyData := .list (is.map PyData.int)
theorem toPs_ints : ∀ js : List Int, EV.toPs (js.map EV.D.int) = some (js.map PyData.int)
  | [] => rfl
  | j :: js => by
    rw [List.map_cons, EV.toPs, toPs_ints js]
    rfl
theorem toP_ints (is : List Int) : EV.toP (lsD is) = some (lsP is) := by
  show (EV.toPs (is.map EV.D.int)).map PyData.list = _
  rw [toPs_ints]
  rfl
theorem toPs_ls : ∀ xs : List (List Int), EV.toPs (xs.map lsD) = some (xs.map lsP)
  | [] => rfl
  | x :: xs => by
    rw [List.map_cons, EV.toPs, toP_ints, toPs_ls xs]
    rfl
theorem eqvs_ints : ∀ a b : List Int, PyData.eqvAll (a.map PyData.int) (b.map PyData.int) = decide (a = b)
  | [], [] => by simp [PyData.eqvAll]
  | [], _ :: _ => by simp [PyData.eqvAll]
  | _ :: _, [] => by simp [PyData.eqvAll]
  | x :: a, y :: b => by
    rw [List.map_cons, List.map_cons, PyData.eqvAll, eqvs_ints a b]
    simp [PyData.eqv]
    by_cases h : x = y <;> simp [h]
theorem eqv_lists (a b : List Int) : PyData.eqv (lsP a) (lsP b) = decide (a = b) := by
  rw [PyData.eqv, eqvs_ints]
theorem lay_ints : ∀ a : List Int, PyData.canLayAll0 (a.map PyData.int) = true ∧ PyData.depthAll (a.map PyData.int) ≤ 0
  | [] => ⟨rfl, Nat.le_refl _⟩
  | x :: a => by
    obtain ⟨h1, h2⟩ := lay_ints a
    rw [List.map_cons, PyData.canLayAll0, PyData.depthAll, h1]
    exact ⟨rfl, Nat.max_le.mpr ⟨Nat.le_refl _, h2⟩⟩
theorem lay_ls : ∀ xs : List (List Int), PyData.canLayAll0 (xs.map lsP) = true ∧ PyData.depthAll (xs.map lsP) ≤ 1
  | [] => ⟨rfl, Nat.zero_le _⟩
  | x :: xs => by
    obtain ⟨h1, h2⟩ := lay_ls xs
    obtain ⟨a1, a2⟩ := lay_ints x
    rw [List.map_cons, PyData.canLayAll0, PyData.depthAll, h1, PyData.canLay0, PyData.depth, a1]
    exact ⟨rfl, Nat.max_le.mpr ⟨by omega, h2⟩⟩
theorem shp_l (a : List Int) : SeqAt.shaped (lsP a) = true := by
  obtain ⟨a1, a2⟩ := lay_ints a
  unfold SeqAt.shaped
  rw [PyData.canLay0, PyData.depth, a1]
  simp
  omega
theorem shp_ls (xs : List (List Int)) : SeqAt.shaped (.list (xs.map lsP)) = true := by
  obtain ⟨a1, a2⟩ := lay_ls xs
  unfold SeqAt.shaped
  rw [PyData.canLay0, PyData.depth, a1]
  simp
  omega
theorem any_ls (x : List Int) : ∀ xs : List (List Int), ((xs.map lsP).any fun z => PyData.eqv z (lsP x)) = decide (x ∈ xs)
  | [] => by simp
  | y :: xs => by
    rw [List.map_cons, List.any_cons, any_ls x xs, eqv_lists]
    by_cases h : y = x
    · subst h; simp
    · simp [h, Ne.symm h]
theorem gInD_of {neg : Bool} {x : List Int} {xs : List (List Int)} {S : Sto} : gInD neg (lsD x) (.lst (xs.map lsD)) S = some (.ok (xor neg (decide (x ∈ xs))), S) := by
  unfold gInD
  have e1 : EV.toPc S (lsD x) = some (lsP x) := toP_ints x
  have e2 : EV.toPc S (.lst (xs.map lsD)) = some (.list (xs.map lsP)) := by
    show (EV.toPs (xs.map lsD)).map PyData.list = _
    rw [toPs_ls]
    rfl
  rw [e1, e2]
  dsimp only
  rw [shp_l, shp_ls, any_ls]
  rfl
theorem cut_pre {α : Type} {xs : List α} {k : Nat} (hk : k ≤ xs.length) : cutL xs none (some (k : Int)) = xs.take k := by
  unfold cutL
  rw [HT.sIx_none, HT.sIx_nat, Nat.min_eq_left hk]
  rfl
theorem cut_tail {α : Type} {xs : List α} : cutL xs (some 1) none = xs.drop 1 := by
  unfold cutL
  have e : HT.sIx xs.length 0 (some 1) = min 1 xs.length := HT.sIx_nat xs.length 0 1
  rw [e, HT.sIx_none]
  cases xs with
  | nil => rfl
  | cons a xs =>
    rw [List.length_cons, Nat.min_eq_left (by omega), List.take_of_length_le (by rw [List.length_drop, List.length_cons]; omega)]
theorem cut_init {α : Type} {xs : List α} : cutL xs none (some (-1)) = xs.dropLast := by
  unfold cutL
  rw [HT.sIx_none]
  have e : HT.sIx xs.length xs.length (some (-1)) = xs.length - 1 := by
    unfold HT.sIx
    dsimp only
    rw [if_pos (by decide)]
    omega
  rw [e, List.drop_zero, Nat.sub_zero, List.dropLast_eq_take]
theorem dec_eq {p : Prop} [Decidable p] {a : Bool} (h : a = true ↔ p) : decide p = a := by
  cases a with
  | true => exact decide_eq_true (h.mp rfl)
  | false => exact decide_eq_false fun z => Bool.noConfusion (h.mpr z)
/-- goes on both ways -/
def gNx (lo hi : Int) (bs : List Bd) (S : List (List Int)) (x : List Int) (v : Int) : Prop := lo ≤ v ∧ v ≤ hi ∧ x.drop 1 ++ [v] ∈ S ∧ Let bs (x ++ [v])
def gPv (lo hi : Int) (bs : List Bd) (S : List (List Int)) (x : List Int) (v : Int) : Prop := lo ≤ v ∧ v ≤ hi ∧ v :: x.dropLast ∈ S ∧ Let bs (v :: x)
open Classical in
noncomputable def goB (lo hi : Int) (bs : List Bd) (S : List (List Int)) (x : List Int) : Bool := decide (∃ v, gPv lo hi bs S x v) && decide (∃ v, gNx lo hi bs S x v)
/-- the days that can be -/
def dysL (lo hi : Int) : List Int := (List.range (hi + 1 - lo).toNat).map fun (i : Nat) => lo + i
theorem dys_range (lo hi : Int) : rangeD lo (hi + 1 - lo).toNat = (dysL lo hi).map EV.D.int := by
  unfold rangeD dysL
  rw [List.map_map]
  rfl
theorem mem_dys {lo hi v : Int} : v ∈ dysL lo hi ↔ lo ≤ v ∧ v ≤ hi := by
  unfold dysL
  rw [List.mem_map]
  constructor
  · rintro ⟨i, hi', rfl⟩
    have := Int.lt_toNat.mp (List.mem_range.mp hi')
    omega
  · intro h
    exact ⟨(v - lo).toNat, List.mem_range.mpr (by omega), by omega⟩
def moreL (lo hi : Int) (xs : List (List Int)) : List (List Int) := xs.flatMap fun l => (dysL lo hi).map fun v => l ++ [v]
def lvl (lo hi : Int) (bs : List Bd) : Nat → List (List Int)
  | 0 => [[]]
  | k + 1 => (moreL lo hi (lvl lo hi bs k)).filter (letB bs)
theorem more_len (lo hi : Int) (xs : List (List Int)) : (moreL lo hi xs).length = xs.length * (hi + 1 - lo).toNat := by
  unfold moreL
  rw [List.length_flatMap]
  have : (xs.map fun l => ((dysL lo hi).map fun v => l ++ [v]).length) = xs.map fun _ => (hi + 1 - lo).toNat := by
    refine List.map_congr_left fun l _ => ?_
    unfold dysL
    simp
  rw [this, List.map_const', List.sum_replicate_nat]
theorem lvl_len (lo hi : Int) (bs : List Bd) : ∀ k : Nat, (lvl lo hi bs k).length ≤ (hi + 1 - lo).toNat ^ k
  | 0 => Nat.le_refl _
  | k + 1 => by
    rw [lvl, Nat.pow_succ]
    refine Nat.le_trans (List.length_filter_le _ _) ?_
    rw [more_len]
    exact Nat.mul_le_mul_right _ (lvl_len lo hi bs k)
theorem mem_lvl {lo hi : Int} {rs : List Bd} {x : List Int} : ∀ {k : Nat}, x ∈ lvl lo hi (⟨1, lo, hi⟩ :: rs) k ↔ x.length = k ∧ Let (⟨1, lo, hi⟩ :: rs) x ∨ (k = 0 ∧ x = []) := by
  intro k
  induction k generalizing x with
  | zero =>
    rw [lvl]
    constructor
    · intro h
      exact .inr ⟨rfl, List.mem_singleton.mp h⟩
    · rintro (⟨h, _⟩ | ⟨_, h⟩)
      · rw [List.length_eq_zero_iff.mp h]; exact List.mem_singleton.mpr rfl
      · rw [h]; exact List.mem_singleton.mpr rfl
  | succ k ih =>
    rw [lvl, List.mem_filter, letB_iff]
    unfold moreL
    rw [List.mem_flatMap]
    constructor
    · rintro ⟨⟨y, hy, hx⟩, hl⟩
      obtain ⟨v, _, rfl⟩ := List.mem_map.mp hx
      refine .inl ⟨?_, hl⟩
      rw [List.length_append, List.length_singleton]
      rcases ih.mp hy with ⟨h, _⟩ | ⟨h, h2⟩
      · rw [h]
      · rw [h, h2]; rfl
    · rintro (⟨h, hl⟩ | ⟨h, _⟩)
      · have ne : x ≠ [] := fun z => by rw [z] at h; cases h
        have e : x.dropLast ++ [x.getLast ne] = x := List.dropLast_concat_getLast ne
        refine ⟨⟨x.dropLast, ?_, List.mem_map.mpr ⟨x.getLast ne, ?_, e⟩⟩, hl⟩
        · refine ih.mpr (.inl ⟨by rw [List.length_dropLast, h]; rfl, ?_⟩)
          rw [← e] at hl
          exact hl.pref
        · have := hl ⟨1, lo, hi⟩ (List.mem_cons_self ..) k (by show k + 1 ≤ x.length; omega)
          rw [← e] at this
          have hd : x.dropLast.length = k := by rw [List.length_dropLast, h]; rfl
          have e1 : pre (x.dropLast ++ [x.getLast ne]) (k + 1) = x.dropLast.sum + x.getLast ne := by
            rw [← hd]; exact pre_snoc _ _
          have e2 : pre (x.dropLast ++ [x.getLast ne]) k = x.dropLast.sum := by
            rw [pre_app _ _ (by omega), pre_all _ (by omega)]
          have t : lo ≤ pre (x.dropLast ++ [x.getLast ne]) (k + 1) - pre (x.dropLast ++ [x.getLast ne]) k ∧ pre (x.dropLast ++ [x.getLast ne]) (k + 1) - pre (x.dropLast ++ [x.getLast ne]) k ≤ hi := this
          rw [e1, e2] at t
          exact mem_dys.mpr ⟨by omega, by omega⟩
      · cases h
/-- what the law's search leaves -/
structure Left (lo hi : Int) (bs : List Bd) (many : Nat) (found : List (List Int)) : Prop where
  sub : found.Sublist (lvl lo hi bs many)
  go : ∀ x, x ∈ found → goB lo hi bs found x = true
  top : ∀ T : List (List Int), (∀ x, x ∈ T → x ∈ lvl lo hi bs many ∧ goB lo hi bs T x = true) → ∀ x, x ∈ T → x ∈ found
theorem goB_iff {lo hi : Int} {bs : List Bd} {S : List (List Int)} {x : List Int} : goB lo hi bs S x = true ↔ (∃ v, gPv lo hi bs S x v) ∧ ∃ v, gNx lo hi bs S x v := by
  unfold goB
  rw [Bool.and_eq_true, @decide_eq_true_eq _ (Classical.propDecidable _), @decide_eq_true_eq _ (Classical.propDecidable _)]
theorem goB_mono {lo hi : Int} {bs : List Bd} {S T : List (List Int)} {x : List Int} (h : ∀ y, y ∈ S → y ∈ T) (g : goB lo hi bs S x = true) : goB lo hi bs T x = true := by
  obtain ⟨⟨v, a1, a2, a3, a4⟩, u, b1, b2, b3, b4⟩ := goB_iff.mp g
  exact goB_iff.mpr ⟨⟨v, a1, a2, h _ a3, a4⟩, u, b1, b2, h _ b3, b4⟩
theorem kd0 {lo hi : Int} {rs : List Bd} {S : Sto} : gIdx (kdD lo hi rs) (.int 0) S = some (.ok (.int lo), S) := by unfold kdD; simp
theorem kd1 {lo hi : Int} {rs : List Bd} {S : Sto} : gIdx (kdD lo hi rs) (.int 1) S = some (.ok (.int hi), S) := by unfold kdD; simp
theorem low_ls (k : Nat) (xs : List (List Int)) : D.low k (.lst (xs.map lsD)) = true := D.lowAll_iff.mpr fun d hd => by
  obtain ⟨x, _, rfl⟩ := List.mem_map.mp hd
  exact D.lowAll_iff.mpr fun d hd => by
    obtain ⟨i, _, rfl⟩ := List.mem_map.mp hd
    rfl
end LW

/-! M26: what the law's search leaves are the blocks that fit. -/
namespace LW
open PySem PySem.Spec PyProof.Rows L2 EV CT
theorem let_day {lo hi : Int} {rs : List Bd} {y : List Int} (h : Let (⟨1, lo, hi⟩ :: rs) y) {v : Int} (hv : v ∈ y) : lo ≤ v ∧ v ≤ hi := by
  obtain ⟨i, hi', rfl⟩ := List.mem_iff_getElem.mp hv
  have := h ⟨1, lo, hi⟩ (List.mem_cons_self ..) i (by show i + 1 ≤ y.length; omega)
  have t : lo ≤ pre y (i + 1) - pre y i ∧ pre y (i + 1) - pre y i ≤ hi := this
  rw [pre_succ hi'] at t
  omega
theorem Left.mem {lo hi : Int} {rs : List Bd} {many : Nat} {found : List (List Int)} (L : Left lo hi (⟨1, lo, hi⟩ :: rs) many found) (hm : 1 ≤ many) {x : List Int} (hx : x ∈ found) : x.length = many ∧ Let (⟨1, lo, hi⟩ :: rs) x := by
  rcases mem_lvl.mp (L.sub.subset hx) with h | ⟨h, _⟩
  · exact h
  · omega
theorem Left.clos {lo hi : Int} {rs : List Bd} {many : Nat} {found : List (List Int)} (L : Left lo hi (⟨1, lo, hi⟩ :: rs) many found) (hm : 1 ≤ many) : Clos (⟨1, lo, hi⟩ :: rs) found many where
  len := fun x hx => (L.mem hm hx).1
  nx := fun x hx => by
    obtain ⟨_, v, _, _, h1, h2⟩ := goB_iff.mp (L.go x hx)
    exact ⟨v, h1, h2⟩
  pv := fun x hx => by
    obtain ⟨⟨v, _, _, h1, h2⟩, _⟩ := goB_iff.mp (L.go x hx)
    exact ⟨v, h1, h2⟩
theorem w_nat {bs : List Bd} {many : Nat} (hw : ∀ b, b ∈ bs → b.w ≤ many + 1) : ∀ b, b ∈ bs → b.w.toNat ≤ many + 1 := fun b hb => by
  have := hw b hb
  omega
theorem Left.iff {lo hi : Int} {rs : List Bd} {many : Nat} {found : List (List Int)} (B : Bk (⟨1, lo, hi⟩ :: rs)) (L : Left lo hi (⟨1, lo, hi⟩ :: rs) many found) (hm : 1 ≤ many) (hw : ∀ b, b ∈ (⟨1, lo, hi⟩ : Bd) :: rs → b.w ≤ many + 1) {x : List Int} :
    x ∈ found ↔ x.length = many ∧ Fits (⟨1, lo, hi⟩ :: rs) x := by
  classical
  constructor
  · intro hx
    exact ⟨(L.mem hm hx).1, (L.clos hm).fits B hm (w_nat hw) hx⟩
  · rintro ⟨hl, hf⟩
    have inT : ∀ {y : List Int}, y.length = many → Fits (⟨1, lo, hi⟩ :: rs) y → y ∈ (lvl lo hi (⟨1, lo, hi⟩ :: rs) many).filter fun y => decide (Fits (⟨1, lo, hi⟩ :: rs) y) := fun {y} h1 h2 =>
      List.mem_filter.mpr ⟨mem_lvl.mpr (.inl ⟨h1, h2.let B⟩), decide_eq_true h2⟩
    refine L.top _ (fun y hy => ?_) x (inT hl hf)
    obtain ⟨h1, h2⟩ := List.mem_filter.mp hy
    have fy : Fits (⟨1, lo, hi⟩ :: rs) y := of_decide_eq_true h2
    have yl : y.length = many := by
      rcases mem_lvl.mp h1 with h | ⟨h, _⟩
      · exact h.1
      · omega
    have ne : y ≠ [] := fun z => by rw [z] at yl; simp at yl; omega
    obtain ⟨⟨v, a1, a2⟩, u, b1, b2⟩ := fits_clos B fy ne
    have dv := let_day a2 (List.mem_append_right y (List.mem_singleton.mpr rfl))
    have du := let_day b2 (List.mem_cons_self ..)
    refine ⟨h1, goB_iff.mpr ⟨⟨u, du.1, du.2, inT ?_ b1, b2⟩, v, dv.1, dv.2, inT ?_ a1, a2⟩⟩
    · rw [List.length_cons, List.length_dropLast]
      omega
    · rw [List.length_append, List.length_drop, List.length_singleton]
      omega
theorem fits_len {bs : List Bd} (B : Bk bs) : ∀ n : Nat, ∃ x : List Int, x.length = n ∧ Fits bs x
  | 0 => ⟨[], rfl, fits_nil B⟩
  | n + 1 => by
    obtain ⟨x, hx, hf⟩ := fits_len B n
    obtain ⟨v, hv⟩ := hf.snoc B
    exact ⟨x ++ [v], by rw [List.length_append, hx]; rfl, hv⟩
theorem Left.rows {lo hi : Int} {rs : List Bd} {many : Nat} {found : List (List Int)} (w0 : ∀ b, b ∈ (⟨1, lo, hi⟩ : Bd) :: rs → 0 < b.w) (L : Left lo hi (⟨1, lo, hi⟩ :: rs) many found) (hm : 1 ≤ many) (hw : ∀ b, b ∈ (⟨1, lo, hi⟩ : Bd) :: rs → b.w ≤ many + 1) :
    found ≠ [] ↔ confl (⟨1, lo, hi⟩ :: rs) = none := by
  rw [confl_none]
  constructor
  · intro ne b hb c hc
    obtain ⟨x, hx⟩ := List.exists_mem_of_ne_nil found ne
    have C := L.clos hm
    have := no_confl w0 (fun N => by
      obtain ⟨l, r, h1, h2, h3⟩ := C.both hm (w_nat hw) hx N
      exact ⟨_, by rw [List.length_append, List.length_append]; omega, h3⟩) hb hc
    exact this
  · intro no
    have B : Bk (⟨1, lo, hi⟩ :: rs) := ⟨w0, no, _, _, _, rfl⟩
    obtain ⟨x, hx, hf⟩ := fits_len B many
    exact List.ne_nil_of_mem ((L.iff B hm hw).mpr ⟨hx, hf⟩)
theorem eq_nil {neg : Bool} {xs : List (List Int)} {S : Sto} : gEq neg (.lst (xs.map lsD)) (.lst []) S = some (.ok (xor neg xs.isEmpty), S) := by
  have e : gEq neg (.lst (xs.map lsD)) (.lst []) S = gEqD neg (.lst (xs.map lsD)) (.lst []) S := rfl
  rw [e]
  unfold gEqD
  have e1 : EV.toPc S (.lst (xs.map lsD)) = some (.list (xs.map lsP)) := by
    show (EV.toPs (xs.map lsD)).map PyData.list = _
    rw [toPs_ls]
    rfl
  have e2 : EV.toPc S (.lst []) = some (.list []) := rfl
  rw [e1, e2]
  dsimp only
  have sh := shp_ls xs
  rw [sh, show SeqAt.shaped (.list []) = true from shp_l []]
  cases xs with
  | nil => simp [PyData.eqv, PyData.eqvAll]
  | cons x xs => simp [PyData.eqv, PyData.eqvAll]
@[simp] theorem gEq_bl {neg a b : Bool} {S : Sto} : gEq neg (.bl a) (.bl b) S = some (.ok (xor neg (decide (a = b))), S) := by
  have e : gEq neg (.bl a) (.bl b) S = gEqD neg (.bl a) (.bl b) S := rfl
  rw [e]
  unfold gEqD
  have e1 : ∀ c : Bool, EV.toPc S (.bl c) = some (.bool c) := fun c => rfl
  rw [e1, e1]
  dsimp only
  cases a <;> cases b <;> simp [SeqAt.shaped, PyData.eqv, PyData.canLay0, PyData.depth]
end LW

/-! M27: whether the law's search finds a list. -/
namespace LW
open PySem PySem.Spec PyProof.Rows L2 EV CT
/-- blocks that fit, and all bounds within: the list fits -/
theorem Clos.ext {bs : List Bd} {S : List (List Int)} {many : Nat} (h : Clos bs S many) (hm : 0 < many) (hw : ∀ b, b ∈ bs → b.w.toNat ≤ many + 1) {x : List Int} (hl : Let bs x) (hx : many ≤ x.length) (h1 : x.take many ∈ S) (h2 : x.drop (x.length - many) ∈ S) (N : Nat) :
    ∃ l r : List Int, l.length = N ∧ r.length = N ∧ Let bs (l ++ x ++ r) := by
  obtain ⟨r, hr, l1⟩ := h.right hm hw N (x.take (x.length - many)) (x.drop (x.length - many)) h2 (by rw [List.take_append_drop]; exact hl)
  rw [List.take_append_drop] at l1
  have e : (x ++ r).reverse = ((x ++ r).drop many).reverse ++ (x.take many).reverse := by
    rw [← List.reverse_append]
    congr 1
    rw [← List.take_append_of_le_length (l₂ := r) hx, List.take_append_drop]
  have l2 := l1.rev
  rw [e] at l2
  obtain ⟨l, hl', l3⟩ := h.rev.right hm hw N _ _ (List.mem_map.mpr ⟨_, h1, rfl⟩) l2
  rw [← e] at l3
  have l4 := l3.rev
  rw [List.reverse_append, List.reverse_reverse] at l4
  exact ⟨l.reverse, r, by rw [List.length_reverse, hl'], hr, by rw [List.append_assoc]; exact l4⟩
theorem Left.there {lo hi : Int} {rs : List Bd} {many : Nat} {found : List (List Int)} (B : Bk (⟨1, lo, hi⟩ :: rs)) (L : Left lo hi (⟨1, lo, hi⟩ :: rs) many found) (hm : 1 ≤ many) (hw : ∀ b, b ∈ (⟨1, lo, hi⟩ : Bd) :: rs → b.w ≤ many + 1) {x : List Int} (hx : many ≤ x.length) :
    Fits (⟨1, lo, hi⟩ :: rs) x ↔ (∀ i : Nat, i < x.length - many + 1 → (x.drop i).take many ∈ found) ∧ Let (⟨1, lo, hi⟩ :: rs) x := by
  constructor
  · intro h
    refine ⟨fun i hi' => (L.iff B hm hw).mpr ⟨?_, (h.drop i).take many⟩, h.let B⟩
    rw [List.length_take, List.length_drop]
    omega
  · rintro ⟨h1, h2⟩
    refine fits_of_let B fun N => (L.clos hm).ext hm (w_nat hw) h2 hx ?_ ?_ N
    · have := h1 0 (by omega)
      rwa [List.drop_zero] at this
    · have := h1 (x.length - many) (by omega)
      rwa [List.take_of_length_le (by rw [List.length_drop]; omega)] at this
theorem fits_more {bs : List Bd} (B : Bk bs) {x : List Int} (h : Fits bs x) : ∀ n : Nat, ∃ e : List Int, e.length = n ∧ Fits bs (x ++ e)
  | 0 => ⟨[], rfl, by rwa [List.append_nil]⟩
  | n + 1 => by
    obtain ⟨e, he, hf⟩ := fits_more B h n
    obtain ⟨v, hv⟩ := hf.snoc B
    exact ⟨e ++ [v], by rw [List.length_append, he]; rfl, by rw [← List.append_assoc]; exact hv⟩
theorem Left.short {lo hi : Int} {rs : List Bd} {many : Nat} {found : List (List Int)} (B : Bk (⟨1, lo, hi⟩ :: rs)) (L : Left lo hi (⟨1, lo, hi⟩ :: rs) many found) (hm : 1 ≤ many) (hw : ∀ b, b ∈ (⟨1, lo, hi⟩ : Bd) :: rs → b.w ≤ many + 1) {x : List Int} (hx : x.length ≤ many) :
    Fits (⟨1, lo, hi⟩ :: rs) x ↔ found.filter (fun y => decide (y.take x.length = x)) ≠ [] := by
  constructor
  · intro h
    obtain ⟨e, he, hf⟩ := fits_more B h (many - x.length)
    have : x ++ e ∈ found := (L.iff B hm hw).mpr ⟨by rw [List.length_append]; omega, hf⟩
    exact List.ne_nil_of_mem (List.mem_filter.mpr ⟨this, by simp⟩)
  · intro h
    obtain ⟨y, hy⟩ := List.exists_mem_of_ne_nil _ h
    obtain ⟨h1, h2⟩ := List.mem_filter.mp hy
    have := ((L.iff B hm hw).mp h1).2.take x.length
    rwa [of_decide_eq_true h2] at this
theorem eq_lists {neg : Bool} {a b : List Int} {S : Sto} : gEq neg (lsD a) (lsD b) S = some (.ok (xor neg (decide (a = b))), S) := by
  have e : gEq neg (lsD a) (lsD b) S = gEqD neg (lsD a) (lsD b) S := rfl
  rw [e]
  unfold gEqD
  have e1 : ∀ a : List Int, EV.toPc S (lsD a) = some (lsP a) := fun a => toP_ints a
  rw [e1, e1]
  dsimp only
  rw [shp_l, shp_l, eqv_lists]
  rfl
end LW

/-! M28: little books by the law; books that are unlike. -/
namespace LW
open PySem PySem.Spec PyProof.Rows L2 EV CT
/-! ### books that are unlike -/
theorem keepsB_iff {as : List Bd} {o : Bd} : keepsB as o = true ↔ o.l ≤ -gs as (-o.w) ∧ gs as o.w ≤ o.m := by
  unfold keepsB
  rw [Bool.and_eq_true, decide_eq_true_eq, decide_eq_true_eq]
theorem row_keeps {as bs : List Bd} (A : Bk as) (h : ∀ o, o ∈ bs → o.l ≤ -gs as (-o.w) ∧ gs as o.w ≤ o.m) : Row bs (gs as) := fun o ho i => by
  obtain ⟨h1, h2⟩ := h o ho
  have a := A.add i o.w
  have b := A.add (i + o.w) (-o.w)
  rw [show i + o.w + -o.w = i by omega] at b
  omega
theorem gs_le_keeps {as bs : List Bd} (A : Bk as) (B : Bk bs) (h : ∀ o, o ∈ bs → o.l ≤ -gs as (-o.w) ∧ gs as o.w ≤ o.m) (n : Int) : gs as n ≤ gs bs n := by
  have := (row_keeps A h).le B 0 n
  rw [A.zero, Int.zero_add] at this
  omega
theorem same_iff {as bs : List Bd} (A : Bk as) (B : Bk bs) : sameB as bs = true ↔ ∀ n, gs as n = gs bs n := by
  unfold sameB
  rw [Bool.and_eq_true, List.all_eq_true, List.all_eq_true]
  constructor
  · rintro ⟨h1, h2⟩ n
    have a := gs_le_keeps A B (fun o ho => keepsB_iff.mp (h1 o ho)) n
    have b := gs_le_keeps B A (fun o ho => keepsB_iff.mp (h2 o ho)) n
    omega
  · intro h
    refine ⟨fun o ho => keepsB_iff.mpr ?_, fun o ho => keepsB_iff.mpr ?_⟩
    · rw [h, h]
      have a := B.up ho
      have b := B.dn ho
      omega
    · rw [← h, ← h]
      have a := A.up ho
      have b := A.dn ho
      omega
noncomputable def unF (as bs : List Bd) (n : Nat) : Option EV.D := if gs as (-(n : Int)) ≠ gs bs (-(n : Int)) then some (.tup [.int (n : Nat), .str "least"]) else if gs as n ≠ gs bs n then some (.tup [.int (n : Nat), .str "greatest"]) else none
noncomputable def unlD (as bs : List Bd) (W : Nat) : Option EV.D := (List.range W).findSome? fun i => unF as bs (i + 1)
theorem unF_none {as bs : List Bd} {n : Nat} : unF as bs n = none ↔ gs as (-(n : Int)) = gs bs (-(n : Int)) ∧ gs as n = gs bs n := by
  unfold unF
  by_cases h : gs as (-(n : Int)) = gs bs (-(n : Int))
  · by_cases k : gs as n = gs bs n
    · simp [h, k]
    · simp [h, k]
  · simp [h]
theorem un_same {as bs : List Bd} (A : Bk as) (B : Bk bs) {W : Nat} (ha : ∀ b, b ∈ as → b.w ≤ W) (hb : ∀ b, b ∈ bs → b.w ≤ W) : unlD as bs W = none ↔ sameB as bs = true := by
  unfold unlD
  rw [List.findSome?_eq_none_iff]
  constructor
  · intro h
    have key : ∀ w : Int, 0 < w → w ≤ W → gs as (-w) = gs bs (-w) ∧ gs as w = gs bs w := fun w h1 h2 => by
      have := unF_none.mp (h (w.toNat - 1) (List.mem_range.mpr (by omega)))
      rwa [show ((w.toNat - 1 + 1 : Nat) : Int) = w by omega] at this
    unfold sameB
    rw [Bool.and_eq_true, List.all_eq_true, List.all_eq_true]
    refine ⟨fun o ho => keepsB_iff.mpr ?_, fun o ho => keepsB_iff.mpr ?_⟩
    · obtain ⟨k1, k2⟩ := key o.w (B.w0 o ho) (hb o ho)
      have a := B.up ho
      have b := B.dn ho
      omega
    · obtain ⟨k1, k2⟩ := key o.w (A.w0 o ho) (ha o ho)
      have a := A.up ho
      have b := A.dn ho
      omega
  · intro h i _
    have := (same_iff A B).mp h
    exact unF_none.mpr ⟨this _, this _⟩
theorem un_some {as bs : List Bd} {W : Nat} {d : EV.D} (h : unlD as bs W = some d) : ∃ (n : Nat) (s : Str), d = .tup [.int (n : Nat), .str s] ∧ 1 ≤ n ∧ n ≤ W ∧ (gs as (-(n : Int)) ≠ gs bs (-(n : Int)) ∨ gs as n ≠ gs bs n) := by
  unfold unlD at h
  obtain ⟨i, hi, h2⟩ := List.exists_of_findSome?_eq_some h
  have hi' := List.mem_range.mp hi
  unfold unF at h2
  split at h2
  · cases h2
    exact ⟨i + 1, _, rfl, by omega, by omega, .inl (by assumption)⟩
  · split at h2
    · cases h2
      exact ⟨i + 1, _, rfl, by omega, by omega, .inr (by assumption)⟩
    · cases h2
theorem unlike_list {as bs : List Bd} (A : Bk as) (B : Bk bs) {n : Nat} (h : gs as (-(n : Int)) ≠ gs bs (-(n : Int)) ∨ gs as n ≠ gs bs n) : ∃ x : List Int, x.length = n ∧ ((Fits as x ∧ ¬ Fits bs x) ∨ (Fits bs x ∧ ¬ Fits as x)) := by
  have up : ∀ {as bs : List Bd}, Bk as → Bk bs → gs bs n < gs as n → ∃ x : List Int, x.length = n ∧ Fits as x ∧ ¬ Fits bs x := fun {as bs} A B h => by
    refine ⟨eL as 0 n, eL_len .., eL_fits A 0 n, fun z => ?_⟩
    have := z 0 n (Nat.zero_le _) (by rw [eL_len]; exact Nat.le_refl _)
    rw [eL_pre _ _ _ _ (Nat.le_refl _), pre_zero, A.zero] at this
    rw [show (0 : Int) + (n : Nat) = n by omega, show ((n : Nat) : Int) - ((0 : Nat) : Int) = n by omega] at this
    omega
  have dn : ∀ {as bs : List Bd}, Bk as → Bk bs → gs bs (-(n : Int)) < gs as (-(n : Int)) → ∃ x : List Int, x.length = n ∧ Fits as x ∧ ¬ Fits bs x := fun {as bs} A B h => by
    refine ⟨eL as (-(n : Int)) n, eL_len .., eL_fits A _ n, fun z => ?_⟩
    have := z n 0 (by rw [eL_len]; exact Nat.le_refl _) (Nat.zero_le _)
    rw [eL_pre _ _ _ _ (Nat.le_refl _), pre_zero, show -(n : Int) + (n : Nat) = 0 by omega, A.zero] at this
    rw [show ((0 : Nat) : Int) - ((n : Nat) : Int) = -(n : Int) by omega] at this
    omega
  rcases h with h | h
  · rcases Int.lt_or_gt_of_ne h with c | c
    · obtain ⟨x, h1, h2⟩ := dn B A c
      exact ⟨x, h1, .inr h2⟩
    · obtain ⟨x, h1, h2⟩ := dn A B c
      exact ⟨x, h1, .inl h2⟩
  · rcases Int.lt_or_gt_of_ne h with c | c
    · obtain ⟨x, h1, h2⟩ := up B A c
      exact ⟨x, h1, .inr h2⟩
    · obtain ⟨x, h1, h2⟩ := up A B c
      exact ⟨x, h1, .inl h2⟩
def allL (lo hi : Int) : Nat → List (List Int)
  | 0 => [[]]
  | k + 1 => moreL lo hi (allL lo hi k)
theorem all_len (lo hi : Int) : ∀ k : Nat, (allL lo hi k).length = (hi + 1 - lo).toNat ^ k
  | 0 => rfl
  | k + 1 => by rw [allL, more_len, all_len lo hi k, Nat.pow_succ]
theorem mem_all {lo hi : Int} : ∀ {k : Nat} {x : List Int}, x ∈ allL lo hi k ↔ x.length = k ∧ ∀ v, v ∈ x → lo ≤ v ∧ v ≤ hi
  | 0, x => by
    rw [allL, List.mem_singleton]
    constructor
    · rintro rfl
      exact ⟨rfl, fun v hv => (List.not_mem_nil hv).elim⟩
    · rintro ⟨h, _⟩
      exact List.length_eq_zero_iff.mp h
  | k + 1, x => by
    rw [allL]
    unfold moreL
    rw [List.mem_flatMap]
    constructor
    · rintro ⟨y, hy, hx⟩
      obtain ⟨v, hv, rfl⟩ := List.mem_map.mp hx
      obtain ⟨h1, h2⟩ := mem_all.mp hy
      refine ⟨by rw [List.length_append, h1]; rfl, fun u hu => ?_⟩
      rcases List.mem_append.mp hu with z | z
      · exact h2 u z
      · rw [List.mem_singleton.mp z]; exact mem_dys.mp hv
    · rintro ⟨h1, h2⟩
      have ne : x ≠ [] := fun z => by rw [z] at h1; cases h1
      have e : x.dropLast ++ [x.getLast ne] = x := List.dropLast_concat_getLast ne
      refine ⟨x.dropLast, mem_all.mpr ⟨by rw [List.length_dropLast, h1]; rfl, fun v hv => h2 v (List.dropLast_subset x hv)⟩, List.mem_map.mpr ⟨x.getLast ne, mem_dys.mpr (h2 _ (List.getLast_mem ne)), e⟩⟩
end LW

/-! M29: first_unlike; all lists and fitting lists by the law. -/
namespace LW
open PySem PySem.Spec PyProof.Rows L2 EV CT
end LW

/-! M30: texts of little books' blocks are unlike. -/
namespace LW
open PySem PySem.Spec PyProof.Rows L2 EV CT
theorem txt_a : ∀ k : Fin 4, ((allL (-1) 1 k).map fun x => rtx (lsD x)).Nodup := by decide +kernel
theorem txt_b : ∀ k : Fin 4, ((allL 0 2 k).map fun x => rtx (lsD x)).Nodup := by decide +kernel
theorem txt_c : ∀ k : Fin 4, ((allL 2 4 k).map fun x => rtx (lsD x)).Nodup := by decide +kernel
theorem nodup_inj {α β : Type} {f : α → β} : ∀ {xs : List α}, (xs.map f).Nodup → ∀ a, a ∈ xs → ∀ b, b ∈ xs → f a = f b → a = b
  | [], _, a, ha, _, _, _ => (List.not_mem_nil ha).elim
  | x :: xs, h, a, ha, b, hb, e => by
    rw [List.map_cons, List.nodup_cons] at h
    rcases List.mem_cons.mp ha with a1 | a1
    · rcases List.mem_cons.mp hb with b1 | b1
      · rw [a1, b1]
      · rw [a1] at e
        exact (h.1 (List.mem_map.mpr ⟨b, b1, e.symm⟩)).elim
    · rcases List.mem_cons.mp hb with b1 | b1
      · rw [b1] at e
        exact (h.1 (List.mem_map.mpr ⟨a, a1, e⟩)).elim
      · exact nodup_inj h.2 a a1 b b1 e
theorem txt_inj {lo hi : Int} {k : Nat} (hl : lo = -1 ∨ lo = 0 ∨ lo = 2) (hh : hi ≤ lo + 2) (hk : k ≤ 3) {x y : List Int} (hx : x.length = k) (hy : y.length = k) (vx : ∀ v, v ∈ x → lo ≤ v ∧ v ≤ hi) (vy : ∀ v, v ∈ y → lo ≤ v ∧ v ≤ hi) (e : rtx (lsD x) = rtx (lsD y)) : x = y := by
  have key : ((allL lo (lo + 2) k).map fun x => rtx (lsD x)).Nodup := by
    rcases hl with rfl | rfl | rfl
    · exact txt_a ⟨k, by omega⟩
    · exact txt_b ⟨k, by omega⟩
    · exact txt_c ⟨k, by omega⟩
  have mem : ∀ {z : List Int}, z.length = k → (∀ v, v ∈ z → lo ≤ v ∧ v ≤ hi) → z ∈ allL lo (lo + 2) k := fun {z} h1 h2 => mem_all.mpr ⟨h1, fun v hv => by have := h2 v hv; omega⟩
  exact nodup_inj key x (mem hx vx) y (mem hy vy) e
end LW

/-! M31: the least and greatest sums of all lists, gone through by the law. -/
namespace LW
open PySem PySem.Spec PyProof.Rows L2 EV CT
theorem Left.step {lo hi : Int} {rs : List Bd} {many n : Nat} {found : List (List Int)} (B : Bk (⟨1, lo, hi⟩ :: rs)) (L : Left lo hi (⟨1, lo, hi⟩ :: rs) many found) (hm : 1 ≤ many) (hw : ∀ b, b ∈ (⟨1, lo, hi⟩ : Bd) :: rs → b.w ≤ many + 1) {x : List Int} {v : Int}
    (hx : Fits (⟨1, lo, hi⟩ :: rs) x) (hl : x.length = n) (hn : many ≤ n) (ht : (x.drop (n - many)).drop 1 ++ [v] ∈ found) (hlet : Let (⟨1, lo, hi⟩ :: rs) (x.drop (n - many) ++ [v])) : Fits (⟨1, lo, hi⟩ :: rs) (x ++ [v]) := by
  have xl : (x ++ [v]).length = n + 1 := by rw [List.length_append, hl]; rfl
  refine (L.there B hm hw (by omega)).mpr ⟨fun i hi => ?_, ?_⟩
  · rw [xl] at hi
    by_cases c : i ≤ n - many
    · have := ((L.there B hm hw (by omega)).mp hx).1 i (by omega)
      rw [List.drop_append_of_le_length (by omega), List.take_append_of_le_length (by rw [List.length_drop]; omega)]
      exact this
    · have e : i = n - many + 1 := by omega
      subst e
      rw [List.drop_append_of_le_length (by omega), List.take_of_length_le (by rw [List.length_append, List.length_drop, List.length_singleton]; omega)]
      rw [List.drop_drop] at ht
      exact ht
  · have a := hx.let B
    have e : x.take (n - many) ++ x.drop (n - many) = x := List.take_append_drop ..
    rw [← e] at a
    have := let_join a hlet (by rw [List.length_drop, hl, show n - (n - many) = many by omega]; exact w_nat hw)
    rwa [e] at this
/-- the last block of a list that goes on -/
theorem Left.tail {lo hi : Int} {rs : List Bd} {many n : Nat} {found : List (List Int)} (B : Bk (⟨1, lo, hi⟩ :: rs)) (L : Left lo hi (⟨1, lo, hi⟩ :: rs) many found) (hm : 1 ≤ many) (hw : ∀ b, b ∈ (⟨1, lo, hi⟩ : Bd) :: rs → b.w ≤ many + 1) {y : List Int}
    (hy : Fits (⟨1, lo, hi⟩ :: rs) y) (hl : y.length = n + 1) (hn : many ≤ n) : ∃ x v, y = x ++ [v] ∧ Fits (⟨1, lo, hi⟩ :: rs) x ∧ x.length = n ∧ lo ≤ v ∧ v ≤ hi ∧ y.drop (n + 1 - many) = (x.drop (n - many)).drop 1 ++ [v] ∧ (x.drop (n - many)).drop 1 ++ [v] ∈ found ∧ Let (⟨1, lo, hi⟩ :: rs) (x.drop (n - many) ++ [v]) := by
  have ne : y ≠ [] := fun z => by rw [z] at hl; cases hl
  have e : y.dropLast ++ [y.getLast ne] = y := List.dropLast_concat_getLast ne
  have dl : y.dropLast.length = n := by rw [List.length_dropLast, hl]; rfl
  have dv := let_day (hy.let B) (List.getLast_mem ne)
  have ed : y.drop (n + 1 - many) = (y.dropLast.drop (n - many)).drop 1 ++ [y.getLast ne] := by
    rw [List.drop_drop, show n - many + 1 = n + 1 - many by omega]
    conv => lhs; rw [← e]
    rw [List.drop_append_of_le_length (by omega)]
  refine ⟨y.dropLast, y.getLast ne, e.symm, ?_, dl, dv.1, dv.2, ed, ?_, ?_⟩
  · rw [List.dropLast_eq_take]
    exact hy.take _
  · rw [← ed]
    exact (L.iff B hm hw).mpr ⟨by rw [List.length_drop]; omega, hy.drop _⟩
  · have := (hy.drop (n - many)).let B
    rw [← e, List.drop_append_of_le_length (by omega)] at this
    exact this
/-! ### entries as data -/
def entD (e : Ent) : EV.D := .tup [lsD e.1, .int e.2.1, .int e.2.2]
noncomputable def dicE (es : List Ent) : List (Key × EV.D) := es.map fun e => (.inr (rtx (lsD e.1)), entD e)
theorem find_dic {es : List Ent} {t : List Int} (inj : ∀ e, e ∈ es → rtx (lsD e.1) = rtx (lsD t) → e.1 = t) : findK (.inr (rtx (lsD t))) (dicE es) = (es.find? fun e => decide (e.1 = t)).map entD := by
  induction es with
  | nil => rfl
  | cons e es ih =>
    have ih' := ih fun e he => inj e (List.mem_cons_of_mem _ he)
    have e1 : findK (.inr (rtx (lsD t))) (dicE (e :: es)) = if (Sum.inr (rtx (lsD e.1)) : Key) = .inr (rtx (lsD t)) then some (entD e) else findK (.inr (rtx (lsD t))) (dicE es) := rfl
    rw [e1, ih', List.find?_cons]
    by_cases c : e.1 = t
    · rw [if_pos (by rw [c]), decide_eq_true c]
      rfl
    · rw [if_neg (fun z => c (inj e (List.mem_cons_self ..) (Sum.inr.inj z))), decide_eq_false c]
/-- an entry put in -/
theorem put_dic {es : List Ent} {t : List Int} {l g l' g' : Int} (inj : ∀ e, e ∈ es → rtx (lsD e.1) = rtx (lsD t) → e.1 = t) (hv : ∀ e, e ∈ es → e.1 = t → l' = min e.2.1 l ∧ g' = max e.2.2 g) (hn : t ∉ es.map Prod.fst → l' = l ∧ g' = g) :
    putD (dicE es) (.inr (rtx (lsD t))) (entD (t, l', g')) = dicE (upE es t l g) := by
  unfold putD
  rw [find_dic inj]
  by_cases c : t ∈ es.map Prod.fst
  · have some_ : ((es.find? fun e => decide (e.1 = t)).map entD).isSome = true := by
      obtain ⟨e, he, h⟩ := List.mem_map.mp c
      rw [Option.isSome_map, List.find?_isSome]
      exact ⟨e, he, decide_eq_true h⟩
    rw [if_pos some_]
    unfold upE dicE
    rw [if_pos c, List.map_map, List.map_map]
    refine List.map_congr_left fun e he => ?_
    show (if (Sum.inr (rtx (lsD e.1)) : Key) = .inr (rtx (lsD t)) then ((Sum.inr (rtx (lsD e.1)) : Key), entD (t, l', g')) else (Sum.inr (rtx (lsD e.1)), entD e)) = _
    by_cases k : e.1 = t
    · obtain ⟨a, b⟩ := hv e he k
      rw [if_pos (by rw [k])]
      show _ = ((Sum.inr (rtx (lsD (if e.1 = t then (t, min e.2.1 l, max e.2.2 g) else e).1)) : Key), entD (if e.1 = t then (t, min e.2.1 l, max e.2.2 g) else e))
      rw [if_pos k, k, a, b]
    · rw [if_neg fun z => k (inj e he (Sum.inr.inj z))]
      show _ = ((Sum.inr (rtx (lsD (if e.1 = t then (t, min e.2.1 l, max e.2.2 g) else e).1)) : Key), entD (if e.1 = t then (t, min e.2.1 l, max e.2.2 g) else e))
      rw [if_neg k]
  · have none_ : ¬ ((es.find? fun e => decide (e.1 = t)).map entD).isSome = true := fun z => by
      rw [Option.isSome_map, List.find?_isSome] at z
      obtain ⟨e, he, h⟩ := z
      exact c (List.mem_map.mpr ⟨e, he, of_decide_eq_true h⟩)
    rw [if_neg none_]
    obtain ⟨a, b⟩ := hn c
    unfold upE dicE
    rw [if_neg c, List.map_append, a, b]
    rfl
theorem min_ints {ns : List Int} {m : Int} {S : Sto} (h : ns.min? = some m) : gMin1 [.lst (ns.map EV.D.int)] S = some (.ok (.int m), S) := by
  have t : intsD S (.lst (ns.map EV.D.int)) = some ns := by
    unfold intsD
    show (some _).bind toInts = _
    rw [Option.bind_some, toInts_map]
  unfold gMin1
  dsimp only
  rw [t, Option.bind_some, h]
theorem max_ints' {ns : List Int} {m : Int} {S : Sto} (h : ns.max? = some m) : gMax1 [.lst (ns.map EV.D.int)] S = some (.ok (.int m), S) := by
  have t : intsD S (.lst (ns.map EV.D.int)) = some ns := by
    unfold intsD
    show (some _).bind toInts = _
    rw [Option.bind_some, toInts_map]
  unfold gMax1
  dsimp only
  rw [t, Option.bind_some, h]
/-- the prefixes of all blocks -/
theorem Left.pref {lo hi : Int} {rs : List Bd} {many n : Nat} {found : List (List Int)} (B : Bk (⟨1, lo, hi⟩ :: rs)) (L : Left lo hi (⟨1, lo, hi⟩ :: rs) many found) (hm : 1 ≤ many) (hw : ∀ b, b ∈ (⟨1, lo, hi⟩ : Bd) :: rs → b.w ≤ many + 1) (hn : n ≤ many) :
    (found.map fun x => (x.take n).sum).max? = some (gs (⟨1, lo, hi⟩ :: rs) n) ∧ (found.map fun x => (x.take n).sum).min? = some (-gs (⟨1, lo, hi⟩ :: rs) (-(n : Int))) := by
  have bd : ∀ x, x ∈ found → -gs (⟨1, lo, hi⟩ :: rs) (-(n : Int)) ≤ (x.take n).sum ∧ (x.take n).sum ≤ gs (⟨1, lo, hi⟩ :: rs) n := fun x hx => by
    obtain ⟨h1, h2⟩ := (L.iff B hm hw).mp hx
    have := (h2.take n).sums
    rw [List.length_take, Nat.min_eq_left (by omega)] at this
    exact this
  have at_ : ∀ o : Int, ∃ x, x ∈ found ∧ x.take n = eL (⟨1, lo, hi⟩ :: rs) o n := fun o => by
    obtain ⟨e, he, hf⟩ := fits_more B (eL_fits B o n) (many - n)
    refine ⟨_, (L.iff B hm hw).mpr ⟨by rw [List.length_append, eL_len, he]; omega, hf⟩, ?_⟩
    rw [List.take_append_of_le_length (by rw [eL_len]; exact Nat.le_refl _), List.take_of_length_le (by rw [eL_len]; exact Nat.le_refl _)]
  constructor
  · refine List.max?_eq_some_iff.mpr ⟨?_, fun b hb => ?_⟩
    · obtain ⟨x, hx, e⟩ := at_ 0
      exact List.mem_map.mpr ⟨x, hx, by rw [e, eL_great B]⟩
    · obtain ⟨x, hx, rfl⟩ := List.mem_map.mp hb
      exact (bd x hx).2
  · refine List.min?_eq_some_iff.mpr ⟨?_, fun b hb => ?_⟩
    · obtain ⟨x, hx, e⟩ := at_ (-(n : Int))
      exact List.mem_map.mpr ⟨x, hx, by rw [e, eL_least B]⟩
    · obtain ⟨x, hx, rfl⟩ := List.mem_map.mp hb
      exact (bd x hx).1
end LW

/-! M32: least and greatest sums by the law's walk over blocks. -/
namespace LW
open PySem PySem.Spec PyProof.Rows L2 EV CT
theorem nodup_len {α : Type} [DecidableEq α] : ∀ {l m : List α}, l.Nodup → (∀ x, x ∈ l → x ∈ m) → l.length ≤ m.length
  | [], m, _, _ => Nat.zero_le _
  | a :: t, m, h, s => by
    rw [List.nodup_cons] at h
    have h1 := nodup_len (m := m.erase a) h.2 fun x hx => (List.mem_erase_of_ne (fun z => h.1 (by subst z; exact hx))).mpr (s x (List.mem_cons_of_mem _ hx))
    have ha := s a (List.mem_cons_self ..)
    rw [List.length_erase_of_mem ha] at h1
    have := List.length_pos_of_mem ha
    rw [List.length_cons]
    omega
theorem rszs_ints : ∀ is : List Int, rszs (is.map EV.D.int) = 322 * is.length
  | [] => by rfl
  | i :: is => by
    rw [List.map_cons, rszs, rszs_ints is, rsz, List.length_cons]
    omega
theorem txt_e {is : List Int} {S : Sto} (hl : is.length ≤ 1000) (h : ∀ v, v ∈ is → v.natAbs ≤ 100000) : gReprR [lsD is] S = some (.ok (.str (rtx (lsD is))), S) := by
  refine repr_n (k := 1) ⟨by decide, nums_iff.mpr fun x hx => ?_⟩ (by decide) ?_ (.inr ⟨_, rfl⟩)
  · obtain ⟨v, hv, rfl⟩ := List.mem_map.mp hx
    have := h v hv
    show v.natAbs < 2 ^ 1000
    exact Nat.lt_of_le_of_lt this (by decide +kernel)
  · show rszs (is.map EV.D.int) + 3 ≤ _
    rw [rszs_ints]
    omega
theorem get2_of {fo fk fv : EX} {ρ : Frm} {S : Sto} {c : Nat} {ks : List (Key × EV.D)} {t : Str} {y : EV.D} (ho : fo ρ S = some (.ok (.cell c), S)) (hc : S[c]? = some (some (.dK ks))) (hk : fk ρ S = some (.ok (.str t), S)) (hv : fv ρ S = some (.ok y, S)) :
    xGet2 fo fk fv ρ S = some (.ok ((findK (.inr t) ks).getD y), S) := by
  have hd : dicD S (.cell c) = some ks := by
    unfold dicD
    dsimp only
    rw [hc]
  unfold xGet2
  rw [ho, bnd_ok, hd]
  dsimp only
  rw [hk, bnd_ok, hv, bnd_ok]
  unfold get2K
  rw [hd]
  rfl
theorem putE_of {fo fi fe : EX} {ρ : Frm} {S : Sto} {c : Nat} {ks : List (Key × EV.D)} {t : Str} {y : EV.D} (he : fe ρ S = some (.ok y, S)) (ho : fo ρ S = some (.ok (.cell c), S)) (hk : fi ρ S = some (.ok (.str t), S)) (hc : S[c]? = some (some (.dK ks))) (hl : ks.length < cap) :
    xDPutE fo fi fe ρ S = some (.nx ρ (S.set c (some (.dK (putD ks (.inr t) y))))) := by
  unfold xDPutE
  rw [he, bnd_ok, ho, bnd_ok, hk, bnd_ok]
  unfold putKE
  show bndS (match S[c]? with
    | some (some (.dK ks)) => if ks.length < cap then some (.ok EV.D.non, S.set c (some (.dK (putD ks (.inr t) y)))) else none
    | _ => none) _ _ = _
  rw [hc]
  dsimp only
  rw [if_pos hl]
  rfl
theorem okS_putE {fo fi fe : EX} {ρ : Frm} {S : Sto} {c : Nat} {ks : List (Key × EV.D)} {t : Str} {y : EV.D} {N : Nd} (he : fe ρ S = some (.ok y, S)) (ho : fo ρ S = some (.ok (.cell c), S)) (hk : fi ρ S = some (.ok (.str t), S)) (hc : S[c]? = some (some (.dK ks))) (hl : ks.length < cap)
    (q : N.nx ρ (S.set c (some (.dK (putD ks (.inr t) y))))) : OkS (xDPutE fo fi fe ρ S) N := by
  rw [putE_of he ho hk hc hl]
  exact q
theorem dvals_of {i j c : Nat} {ρ : Frm} {S : Sto} {ks : List (Key × EV.D)} (h : ρ[i]? = some (some (.cell c))) (hc : S[c]? = some (some (.dK ks))) (hj : j < ρ.length) (hl : ks.length < cap) (hn : (ks.map Prod.fst).Nodup) : xDVals i j ρ S = some (.ok (ks.map Prod.snd), S) := by
  unfold xDVals
  rw [h]
  dsimp only
  rw [hc]
  dsimp only
  rw [if_pos ⟨hj, hl, hn⟩]
theorem nodup_txt : ∀ {es : List Ent}, (es.map Prod.fst).Nodup → (∀ e, e ∈ es → ∀ e', e' ∈ es → rtx (lsD e.1) = rtx (lsD e'.1) → e.1 = e'.1) → ((dicE es).map Prod.fst).Nodup
  | [], _, _ => List.nodup_nil
  | e :: es, h, inj => by
    rw [List.map_cons, List.nodup_cons] at h
    have ih := nodup_txt h.2 fun a ha b hb => inj a (List.mem_cons_of_mem _ ha) b (List.mem_cons_of_mem _ hb)
    show ((Sum.inr (rtx (lsD e.1)) : Key) :: (dicE es).map Prod.fst).Nodup
    refine List.nodup_cons.mpr ⟨fun z => ?_, ih⟩
    obtain ⟨p, hp, hq⟩ := List.mem_map.mp z
    obtain ⟨e', he', rfl⟩ := List.mem_map.mp hp
    have := inj e' (List.mem_cons_of_mem _ he') e (List.mem_cons_self ..) (Sum.inr.inj hq)
    exact h.1 (List.mem_map.mpr ⟨e', he', this⟩)
theorem dic_vals (es : List Ent) : (dicE es).map Prod.snd = es.map entD := by
  unfold dicE
  rw [List.map_map]
  rfl
theorem dic_len (es : List Ent) : (dicE es).length = es.length := List.length_map ..
theorem find_key : ∀ {fs : List Ent}, (fs.map Prod.fst).Nodup → ∀ {e : Ent}, e ∈ fs → fs.find? (fun x => decide (x.1 = e.1)) = some e
  | [], _, e, h => (List.not_mem_nil h).elim
  | f :: fs, h, e, he => by
    rw [List.map_cons, List.nodup_cons] at h
    rw [List.find?_cons]
    rcases List.mem_cons.mp he with z | z
    · rw [z, decide_eq_true rfl]
    · have : ¬ f.1 = e.1 := fun k => h.1 (List.mem_map.mpr ⟨e, z, k.symm⟩)
      rw [decide_eq_false this]
      exact find_key h.2 z
theorem find_none' {fs : List Ent} {t : List Int} (h : t ∉ fs.map Prod.fst) : fs.find? (fun x => decide (x.1 = t)) = none := by
  rw [List.find?_eq_none]
  intro x hx z
  exact h (List.mem_map.mpr ⟨x, hx, of_decide_eq_true z⟩)
noncomputable def bndD (bs : List Bd) (n : Nat) : EV.D := .tup [.int (-gs bs (-(n : Int))), .int (gs bs n)]
structure EOk (bs : List Bd) (found : List (List Int)) (many n : Nat) (es : List Ent) : Prop where
  nd : (es.map Prod.fst).Nodup
  sub : ∀ e, e ∈ es → e.1 ∈ found
  snd : Snd bs many n es
theorem EOk.len {bs : List Bd} {found : List (List Int)} {many n : Nat} {es : List Ent} (h : EOk bs found many n es) : es.length ≤ found.length := by
  have := nodup_len h.nd (m := found) fun x hx => by
    obtain ⟨e, he, rfl⟩ := List.mem_map.mp hx
    exact h.sub e he
  rwa [List.length_map] at this
theorem EOk.up {bs : List Bd} {found : List (List Int)} {many n : Nat} {es : List Ent} (h : EOk bs found many n es) {t : List Int} {l g : Int} (ht : t ∈ found)
    (hl : ∃ x, Fits bs x ∧ x.length = n ∧ x.drop (n - many) = t ∧ x.sum = l) (hg : ∃ x, Fits bs x ∧ x.length = n ∧ x.drop (n - many) = t ∧ x.sum = g) : EOk bs found many n (upE es t l g) where
  nd := upE_nodup h.nd
  sub := fun e he => by
    have : e.1 ∈ (upE es t l g).map Prod.fst := List.mem_map_of_mem he
    rw [upE_keys] at this
    split at this
    · obtain ⟨e', he', e2⟩ := List.mem_map.mp this
      rw [← e2]
      exact h.sub e' he'
    · rcases List.mem_append.mp this with z | z
      · obtain ⟨e', he', e2⟩ := List.mem_map.mp z
        rw [← e2]
        exact h.sub e' he'
      · rw [List.mem_singleton.mp z]
        exact ht
  snd := upE_snd h.snd hl hg
def Told (bs : List Bd) (found : List (List Int)) (fs : List Ent) (e : Ent) (v : Int) : Prop := e.1.drop 1 ++ [v] ∈ found → Let bs (e.1 ++ [v]) → ∃ e', e' ∈ fs ∧ e'.1 = e.1.drop 1 ++ [v] ∧ e'.2.1 ≤ e.2.1 + v ∧ e.2.2 + v ≤ e'.2.2
theorem Told.up {bs : List Bd} {found : List (List Int)} {fs : List Ent} {e : Ent} {v : Int} (h : Told bs found fs e v) {t : List Int} {l g : Int} : Told bs found (upE fs t l g) e v := fun h1 h2 => by
  obtain ⟨e', a, b, c, d⟩ := h h1 h2
  obtain ⟨e2, a2, b2, c2, d2⟩ := upE_old (t := t) (l := l) (g := g) a
  exact ⟨e2, a2, b2.trans b, by omega, by omega⟩
/-- a day put behind all entries -/
theorem EOk.next {lo hi : Int} {rs : List Bd} {many n : Nat} {found : List (List Int)} {es fs : List Ent} (B : Bk (⟨1, lo, hi⟩ :: rs)) (L : Left lo hi (⟨1, lo, hi⟩ :: rs) many found) (hm : 1 ≤ many) (hw : ∀ b, b ∈ (⟨1, lo, hi⟩ : Bd) :: rs → b.w ≤ many + 1) (hn : many ≤ n)
    (h : EOk (⟨1, lo, hi⟩ :: rs) found many n es) (k : EOk (⟨1, lo, hi⟩ :: rs) found many (n + 1) fs) {e : Ent} (he : e ∈ es) {v : Int} (ht : e.1.drop 1 ++ [v] ∈ found) (hl : Let (⟨1, lo, hi⟩ :: rs) (e.1 ++ [v])) : EOk (⟨1, lo, hi⟩ :: rs) found many (n + 1) (upE fs (e.1.drop 1 ++ [v]) (e.2.1 + v) (e.2.2 + v)) := by
  have one : ∀ s, (∃ x, Fits (⟨1, lo, hi⟩ :: rs) x ∧ x.length = n ∧ x.drop (n - many) = e.1 ∧ x.sum = s) → ∃ x, Fits (⟨1, lo, hi⟩ :: rs) x ∧ x.length = n + 1 ∧ x.drop (n + 1 - many) = e.1.drop 1 ++ [v] ∧ x.sum = s + v := by
    rintro s ⟨x, hx, xl, xd, xs⟩
    rw [← xd] at ht hl
    refine ⟨x ++ [v], L.step B hm hw hx xl hn ht hl, by rw [List.length_append, xl]; rfl, ?_, by rw [List.sum_append, xs]; simp⟩
    rw [← xd, List.drop_append_of_le_length (by omega), List.drop_drop, show n - many + 1 = n + 1 - many by omega]
  exact k.up ht (one _ (h.snd e he).1) (one _ (h.snd e he).2)
theorem cpl_next {lo hi : Int} {rs : List Bd} {many n : Nat} {found : List (List Int)} {es fs : List Ent} (B : Bk (⟨1, lo, hi⟩ :: rs)) (L : Left lo hi (⟨1, lo, hi⟩ :: rs) many found) (hm : 1 ≤ many) (hw : ∀ b, b ∈ (⟨1, lo, hi⟩ : Bd) :: rs → b.w ≤ many + 1) (hn : many ≤ n)
    (c : Cpl (⟨1, lo, hi⟩ :: rs) many n es) (t : ∀ e, e ∈ es → ∀ v, lo ≤ v → v ≤ hi → Told (⟨1, lo, hi⟩ :: rs) found fs e v) : Cpl (⟨1, lo, hi⟩ :: rs) many (n + 1) fs := fun y hy yl => by
  obtain ⟨x, v, rfl, hx, xl, v1, v2, ed, hf, hl⟩ := L.tail B hm hw hy yl hn
  obtain ⟨e, he, e1, e2, e3⟩ := c x hx xl
  rw [← e1] at ed hf hl
  obtain ⟨e', a1, a2, a3, a4⟩ := t e he v v1 v2 hf hl
  refine ⟨e', a1, by rw [a2, ed], ?_, ?_⟩
  · rw [List.sum_append, List.sum_singleton]; omega
  · rw [List.sum_append, List.sum_singleton]; omega
end LW

/-! M33: far sums by the law: dicts with keys of the other sign, kinds turned about. -/
namespace LW
open PySem PySem.Spec PyProof.Rows L2 EV CT
def negD (ks : List (Key × EV.D)) : List (Key × EV.D) := ks.map fun p => (negKey p.1, p.2)
theorem find_neg {x : Int} : ∀ ks : List (Key × EV.D), findK (.inl (0 - x)) (negD ks) = findK (.inl x) ks
  | [] => rfl
  | p :: ks => by
    show (if negKey p.1 = .inl (0 - x) then some p.2 else findK (.inl (0 - x)) (negD ks)) = if p.1 = .inl x then some p.2 else findK (.inl x) ks
    rw [find_neg ks]
    by_cases c : p.1 = .inl x
    · rw [if_pos c, if_pos (by rw [c]; rfl)]
    · rw [if_neg c, if_neg fun z => c (negKey_inj (z.trans rfl))]
theorem get_neg {f : Int → Int} {x lo : Int} {n c : Nat} {S : Sto} (h : S[c]? = some (some (.dK (negD (tabD f lo n))))) (h1 : lo ≤ -x) (h2 : -x < lo + n) : getKD (.cell c) (.int x) S = some (.ok (.int (f (-x))), S) := by
  have : dicD S (.cell c) = some (negD (tabD f lo n)) := by
    unfold dicD
    dsimp only
    rw [h]
  unfold getKD
  rw [this]
  dsimp only
  have e := find_neg (x := -x) (tabD f lo n)
  rw [show 0 - -x = x by omega, find_tab h1 h2] at e
  rw [e]
theorem tab_keys {f : Int → Int} : ∀ {n : Nat} {lo : Int}, (∀ k, k ∈ (tabD f lo n).map Prod.fst → ∃ i, k = .inl i ∧ lo ≤ i) ∧ ((tabD f lo n).map Prod.fst).Nodup
  | 0, lo => ⟨fun k h => (List.not_mem_nil h).elim, List.nodup_nil⟩
  | n + 1, lo => by
    obtain ⟨a, b⟩ := tab_keys (f := f) (n := n) (lo := lo + 1)
    refine ⟨fun k h => ?_, ?_⟩
    · rcases List.mem_cons.mp h with rfl | h
      · exact ⟨lo, rfl, Int.le_refl _⟩
      · obtain ⟨i, e, hi⟩ := a k h
        exact ⟨i, e, by omega⟩
    · refine List.nodup_cons.mpr ⟨fun h => ?_, b⟩
      obtain ⟨i, e, hi⟩ := a _ h
      have := Sum.inl.inj e
      omega
theorem dneg_of {f : Int → Int} {lo : Int} {n i j c : Nat} {ρ : Frm} {S : Sto} (h : ρ[i]? = some (some (.cell c))) (hc : S[c]? = some (some (.dK (tabD f lo n)))) (hj : j < ρ.length) (hl : n < cap) : xDNeg i j ρ S = some (.ok (.cell S.length), S ++ [some (.dK (negD (tabD f lo n)))]) := by
  unfold xDNeg
  rw [h]
  dsimp only
  rw [hc]
  dsimp only
  obtain ⟨a, b⟩ := tab_keys (f := f) (n := n) (lo := lo)
  rw [if_pos ⟨hj, by rw [len_tab]; exact hl, b, List.all_eq_true.mpr fun p hp => by
    obtain ⟨i, e, _⟩ := a p.1 (List.mem_map_of_mem hp)
    rw [e]
    rfl⟩]
  rfl
theorem low_neg (k : Nat) (f : Int → Int) (n : Nat) (lo : Int) : ((negD (tabD f lo n)).all fun p => D.low k p.2) = true := by
  unfold negD
  rw [List.all_map]
  exact low_tab k f n lo
/-- the widest of all bounds -/
theorem widest_e (bs : List Bd) (h : bs ≠ []) {S : Sto} : ∃ W, (∀ b, b ∈ bs → b.w ≤ W) ∧ (∃ b, b ∈ bs ∧ b.w = W) ∧ gMax1 [.lst (bs.map fun b => EV.D.int b.w)] S = some (.ok (.int W), S) := by
  obtain ⟨w, ew⟩ : ∃ w, (bs.map Bd.w).max? = some w := by
    cases z : (bs.map Bd.w).max? with
    | none =>
      rw [List.max?_eq_none_iff, List.map_eq_nil_iff] at z
      exact absurd z h
    | some w => exact ⟨w, rfl⟩
  obtain ⟨wm, wle⟩ := List.max?_eq_some_iff.mp ew
  have em := max_ints' (S := S) ew
  rw [List.map_map] at em
  refine ⟨w, fun b hb => wle _ (List.mem_map_of_mem hb), ?_, em⟩
  obtain ⟨b, hb, e⟩ := List.mem_map.mp wm
  exact ⟨b, hb, e⟩
end LW

/-! M34: the first conflict by the law; errors of sums. -/
namespace LW
open PySem PySem.Spec PyProof.Rows L2 EV CT
theorem confl_num {bs : List Bd} (hl : bs.length ≤ 1000) : num 1 ((confl bs).getD .non) ∧ rsz ((confl bs).getD .non) ≤ 10000 := by
  cases e : confl bs with
  | none => exact ⟨trivial, by decide⟩
  | some d =>
    unfold confl at e
    obtain ⟨p, hp, h2⟩ := List.exists_of_findSome?_eq_some e
    unfold confI at h2
    obtain ⟨q, hq, h3⟩ := List.exists_of_findSome?_eq_some h2
    split at h3
    · cases h3
      have k : ∀ (r : Bd × Nat), r ∈ bs.zipIdx → Sm (r.2 : Int) := fun r hr => by
        have : r.2 < bs.length := by
          have := List.mem_zipIdx hr
          omega
        exact Sm.of (n := 1000) (by omega) (by decide +kernel)
      exact ⟨⟨by decide, k p hp, k q hq, trivial⟩, by simp [rsz, rszs]⟩
    · cases h3
theorem confl_low {bs : List Bd} {d : EV.D} (h : confl bs = some d) : ∃ i j : Nat, d = .tup [.int i, .int j] := by
  unfold confl at h
  obtain ⟨p, hp, h2⟩ := List.exists_of_findSome?_eq_some h
  unfold confI at h2
  obtain ⟨q, hq, h3⟩ := List.exists_of_findSome?_eq_some h2
  split at h3
  · cases h3
    exact ⟨p.2, q.2, rfl⟩
  · cases h3
theorem okS_raise {c : Nat} {fr : EA} {ρ : Frm} {S : Sto} {N : Nd} : OkS (xRaise c fr ρ S) N ↔ OkE (fr ρ S) (fun ds S1 => ∃ d, ds = [d] ∧ N.er (c, d) ρ S1) (fun e S1 => N.er e ρ S1) := by
  unfold xRaise
  generalize fr ρ S = r
  match r with
  | none => exact Iff.rfl
  | some (.error e, S1) => exact Iff.rfl
  | some (.ok ds, S1) =>
    match ds with
    | [d] => exact ⟨fun z => ⟨d, rfl, z⟩, fun ⟨d', e, z⟩ => by cases e; exact z⟩
    | [] => exact ⟨fun z => z.elim, fun ⟨d', e, z⟩ => by cases e⟩
    | a :: b :: r => exact ⟨fun z => z.elim, fun ⟨d', e, z⟩ => by cases e⟩
theorem okS_try {i : Nat} {ok : Nat → Bool} {fb : ES} {fs : Er → ES} {ρ : Frm} {S : Sto} {N : Nd} (h : OkS (fb ρ S) { N with er := fun e ρ1 S1 => ok e.1 = true ∧ D.low 0 e.2 = true ∧ OkS (sutE i (fs e (ρ1.set i (some (.err e.1 e.2))) S1)) N }) : OkS (xTry i ok fb fs ρ S) N := by
  unfold xTry
  generalize fb ρ S = r at h ⊢
  match r, h with
  | some (.nx _ _), h => exact h
  | some (.rt _ _), h => exact h
  | some (.bk _ _), h => exact h
  | some (.ct _ _), h => exact h
  | some (.er e ρ1 S1), h =>
    dsimp only
    rw [if_pos ⟨h.1, h.2.1⟩]
    exact h.2.2
theorem okS_sut {i : Nat} {o : Option Out} {N : Nd} (h : OkS o { nx := fun ρ S => (S.all (lowS S.length) = true ∧ ((ρ.set i none).all (lowO S.length)) = true) ∧ N.nx (ρ.set i none) S, rt := fun d S => (S.all (lowS S.length) = true ∧ D.low S.length d = true) ∧ N.rt d S }) : OkS (sutE i o) N := by
  match o, h with
  | some (.nx ρ S), h =>
    unfold sutE
    dsimp only
    rw [if_pos h.1]
    exact h.2
  | some (.rt d S), h =>
    unfold sutE
    dsimp only
    rw [if_pos h.1]
    exact h.2
theorem u_isE {i : Nat} {f : Nat → Bool} {ρ : Frm} {S : Sto} : xIsE i f ρ S = match ρ[i]? with
  | some (some (.err c _)) => some (.ok (.bl (f c)), S)
  | _ => none := rfl
theorem u_errV {i : Nat} {ρ : Frm} {S : Sto} : xErV i ρ S = match ρ[i]? with
  | some (some (.err _ d)) => some (.ok d, S)
  | _ => none := rfl
theorem er_eq {α : Type} {r : Res α} {e : Er} {S : Sto} (h : OkE r (fun _ _ => False) fun e' S' => e' = e ∧ S' = S) : r = some (.error e, S) := by
  match r, h with
  | some (.error e', S'), h =>
    obtain ⟨rfl, rfl⟩ := h
    rfl
theorem rows_x {bs : List Bd} {S : Sto} {d : EV.D} (hb : ∀ b, b ∈ bs → SmB b) (h : confl bs = some d) : f_check_rows [bk bs] S = some (.error (17, d), S) := by
  obtain ⟨i, j, rfl⟩ := confl_low h
  refine er_eq (okE_fn rfl ?_)
  unfold g_check_rows
  simp [cls_bk, conflict_e hb, h, okS_raise]
theorem length_x {w l : Int} {S : Sto} (h : w < l) : f_check_length [.int w, .int l] S = some (.error (13, .int w), S) := by
  refine er_eq (okE_fn rfl ?_)
  unfold g_check_length
  simp [h, okS_raise]
end LW

/-! M35: errors of what books tell; first_unlike ends. -/
namespace LW
open PySem PySem.Spec PyProof.Rows L2 EV CT
theorem bk_of {lo hi : Int} {rs : List Bd} (l0 : lo.natAbs ≤ 20) (l1 : hi.natAbs ≤ 20) (hr : ∀ b, b ∈ rs → okR b = true ∧ SmB b ∧ b.w ≤ 40) (hl : rs.length ≤ 10) :
    (∀ b, b ∈ (⟨1, lo, hi⟩ : Bd) :: rs → SmB b) ∧ (confl ((⟨1, lo, hi⟩ : Bd) :: rs) = none → BkOk (⟨1, lo, hi⟩ :: rs)) := by
  have hb : ∀ b, b ∈ (⟨1, lo, hi⟩ : Bd) :: rs → SmB b := fun b hb => by
    rcases List.mem_cons.mp hb with rfl | hb
    · exact ⟨by show Sm 1; decide +kernel, Sm.of (n := 20) l0 (by decide +kernel), Sm.of (n := 20) l1 (by decide +kernel)⟩
    · exact (hr b hb).2.1
  exact ⟨hb, fun hc => {
    ok := ⟨hb, fun b hb => by
      rcases List.mem_cons.mp hb with rfl | hb
      · show (0 : Int) < 1; decide
      · have := (hr b hb).1
        unfold LW.okR at this
        simp at this
        omega, hc⟩
    hd := ⟨_, _, _, rfl⟩
    w40 := fun b hb => by
      rcases List.mem_cons.mp hb with rfl | hb
      · show (1 : Int) ≤ 40; decide
      · exact (hr b hb).2.2
    len := by rw [List.length_cons]; omega }⟩
theorem num_n : num 1 (.str "n") ∧ num 1 (.str "l") ∧ num 1 (.str "r") ∧ num 1 (.str "i") ∧ num 1 (.str "d") := by
  unfold num
  decide +kernel
end LW

/-! M36: books refused. -/
namespace LW
open PySem PySem.Spec PyProof.Rows L2 EV CT
theorem okS_findX {α : Type} {g : Sto → Prop} {gs : D → Frm → Sto → Option Frm} {bs : ES} (emb : α → D) (f : α → Option Er) (Pr : α → Prop) (I : Frm → Sto → Prop)
    (s : ∀ a ρ S, Pr a → I ρ S → g S ∧ ∃ ρ1, gs (emb a) ρ S = some ρ1 ∧ OkS (bs ρ1 S) { nx := fun ρ2 S2 => f a = none ∧ I ρ2 S2, er := fun e ρ2 S2 => f a = some e ∧ I ρ2 S2 }) (e : ∀ ρ S, I ρ S → g S) :
    ∀ (xs : List α) (ρ : Frm) (S : Sto), (∀ a, a ∈ xs → Pr a) → I ρ S → OkS (forLoop g gs bs (xs.map emb) ρ S) { nx := fun ρ S => xs.findSome? f = none ∧ I ρ S, er := fun e ρ S => xs.findSome? f = some e ∧ I ρ S }
  | [], ρ, S, _, h => by
    rw [List.map_nil]
    unfold forLoop
    rw [if_pos (e ρ S h)]
    exact ⟨rfl, h⟩
  | a :: xs, ρ, S, hp, h => by
    obtain ⟨h1, ρ1, h2, h3⟩ := s a ρ S (hp a (List.mem_cons_self ..)) h
    rw [List.map_cons]
    unfold forLoop
    rw [if_pos h1, h2]
    dsimp only
    match bs ρ1 S, h3 with
    | some (.nx ρ2 S2), h3 =>
      have ih := okS_findX emb f Pr I s e xs ρ2 S2 (fun b hb => hp b (List.mem_cons_of_mem _ hb)) h3.2
      refine ih.imp (fun ρ S z => ?_) (fun _ _ z => z) (fun _ _ z => z) (fun _ _ z => z) (fun e ρ S z => ?_)
      · rw [List.findSome?_cons, h3.1]
        exact z
      · rw [List.findSome?_cons, h3.1]
        exact z
    | some (.er e ρ2 S2), h3 =>
      show (a :: xs).findSome? f = some e ∧ I ρ2 S2
      rw [List.findSome?_cons, h3.1]
      exact ⟨rfl, h3.2⟩
theorem gxs210 {α : Type} {a b c : α} : gxs [2, 1, 0] [a, b, c] = [c, b, a] := rfl
theorem enI_cell {n : Nat} {xs : List EV.D} {S : Sto} (h : S[n]? = some (some (.lst xs))) : ∃ g, enI [.cell n] S = some (.ok (enumD xs, g), S) ∧ ∀ S2, S2[n]? = some (some (.lst xs)) → g S2 := by
  have e : seqD S (.cell n) = some xs := by
    dsimp only [seqD]
    rw [h]
  unfold enI
  dsimp only
  rw [e]
  refine ⟨_, rfl, fun S2 h2 => ?_⟩
  show stays S (.cell n) S2
  show S2[n]? = S[n]?
  rw [h, h2]
/-- the first rule that is none -/
def badI (p : Bd × Nat) : Option Er := if LW.okR p.1 then none else some (12, .int (p.2 : Nat))
def refD (lo hi : Int) (rs : List Bd) : Option Er := if hi < lo then some (11, .tup [.int lo, .int hi]) else rs.zipIdx.findSome? badI
theorem refD_ok {lo hi : Int} {rs : List Bd} {e : Er} (h : refD lo hi rs = some e) : e = (11, .tup [.int lo, .int hi]) ∨ ∃ i : Nat, i < rs.length ∧ e = (12, .int i) := by
  unfold refD at h
  split at h
  · cases h
    exact .inl rfl
  · obtain ⟨p, hp, h2⟩ := List.exists_of_findSome?_eq_some h
    unfold badI at h2
    split at h2
    · cases h2
    · cases h2
      have := List.mem_zipIdx hp
      exact .inr ⟨p.2, by omega, rfl⟩
theorem made_c {lo hi : Int} {rs : List Bd} {n : Nat} {S : Sto} (hn : S[n]? = some (some (.lst (tris rs)))) (hl : rs.length < 10000) (hS : ∀ k, S.all (lowS k) = true) :
    mkO 0 0 f_Book_init conv_Book [.int lo, .int hi, .cell n] S = match refD lo hi rs with
      | some e => some (.error e, S)
      | none => some (.ok (bk (⟨1, lo, hi⟩ :: rs)), S) := by
  have nl : n < S.length := (List.getElem?_eq_some_iff.mp hn).1
  have key : OkE (f_Book_init [.cell S.length, .int lo, .int hi, .cell n] (S ++ [some (.ins 0 [])])) (fun d S' => d = .non ∧ refD lo hi rs = none ∧ S' = S ++ [some (.ins 0 [(0, .tup (tris (⟨1, lo, hi⟩ :: rs))), (1, .non), (2, .non)])])
      (fun e S' => refD lo hi rs = some e ∧ S' = S ++ [some (.ins 0 [])]) := by
    refine okE_fn rfl (?_ : OkS (g_Book_init [some (.cell S.length), some (.int lo), some (.int hi), some (.cell n), none, none] (S ++ [some (.ins 0 [])])) _)
    unfold g_Book_init
    refine okS_seq.mpr ?_
    by_cases c : hi < lo
    · have rd : refD lo hi rs = some (11, .tup [.int lo, .int hi]) := by unfold refD; rw [if_pos c]
      simp only [decide_eq_true c, okS_raise, okS_bndS, okE_bnd, okE_ok, okS_nx, okS_rt, u_var, u_c, u_bin, u_un, u_nil, u_cons, u_tup, u_lst, chkT0, chkT1, chkT2, chkT3, chkL0, chkL1, chkL2, u_frz, u_cel, u_expr, u_ret, u_ifS, u_set, u_asg, u_asgT, u_asgN, u_nx, u_gName, u_gNilT, u_gConsT, u_gTupT, u_seqI, seqI_lst, seqI_tup, u_rng1, u_rng2, u_for, u_noP, u_part, partI_int, u_slL, slL_lst, u_app, u_callB, u_call, u_yes, u_gAdd, u_gSub, u_gNeg, u_gCmp, u_gMax2, u_gMin2, u_gLenL, ix0L, ix1L, ix2L, ix0T, ix1T, ix2T, u_newD, u_lc, u_and, u_or, u_not, u_ts, u_toB, u_cmp, u_bl, wipe_nil, wipe_cons, List.getElem?_cons_zero, List.getElem?_cons_succ, List.set_cons_succ, List.set_cons_zero, List.map_cons, List.map_nil, List.cons_append, List.nil_append, List.replicate, if_true, List.length_cons, List.length_nil, bnd_ok]
      exact ⟨_, rfl, rd, rfl⟩
    · have rd : refD lo hi rs = rs.zipIdx.findSome? badI := by unfold refD; rw [if_neg c]
      simp only [decide_eq_false c, Bool.false_eq_true, if_false, okS_bndS, okE_bnd, okE_ok, okS_nx, okS_rt, u_var, u_c, u_bin, u_un, u_nil, u_cons, u_tup, u_lst, chkT0, chkT1, chkT2, chkT3, chkL0, chkL1, chkL2, u_frz, u_cel, u_expr, u_ret, u_ifS, u_set, u_asg, u_asgT, u_asgN, u_nx, u_gName, u_gNilT, u_gConsT, u_gTupT, u_seqI, seqI_lst, seqI_tup, u_rng1, u_rng2, u_for, u_noP, u_part, partI_int, u_slL, slL_lst, u_app, u_callB, u_call, u_yes, u_gAdd, u_gSub, u_gNeg, u_gCmp, u_gMax2, u_gMin2, u_gLenL, ix0L, ix1L, ix2L, ix0T, ix1T, ix2T, u_newD, u_lc, u_and, u_or, u_not, u_ts, u_toB, u_cmp, u_bl, wipe_nil, wipe_cons, List.getElem?_cons_zero, List.getElem?_cons_succ, List.set_cons_succ, List.set_cons_zero, List.map_cons, List.map_nil, List.cons_append, List.nil_append, List.replicate, if_true, List.length_cons, List.length_nil, bnd_ok]
      refine okS_seq.mpr ?_
      have hn' : ∀ x : Option Cell, (S ++ [x])[n]? = some (some (.lst (tris rs))) := fun x => by rw [List.getElem?_append_left nl]; exact hn
      obtain ⟨g, eg, hg⟩ := enI_cell (hn' (some (.ins 0 [])))
      simp only [u_enum, eg, enum_tris, okS_bndS, okE_bnd, okE_ok, okS_nx, okS_rt, u_var, u_c, u_bin, u_un, u_nil, u_cons, u_tup, u_lst, chkT0, chkT1, chkT2, chkT3, chkL0, chkL1, chkL2, u_frz, u_cel, u_expr, u_ret, u_ifS, u_set, u_asg, u_asgT, u_asgN, u_nx, u_gName, u_gNilT, u_gConsT, u_gTupT, u_seqI, seqI_lst, seqI_tup, u_rng1, u_rng2, u_for, u_noP, u_part, partI_int, u_slL, slL_lst, u_app, u_callB, u_call, u_yes, u_gAdd, u_gSub, u_gNeg, u_gCmp, u_gMax2, u_gMin2, u_gLenL, ix0L, ix1L, ix2L, ix0T, ix1T, ix2T, u_newD, u_lc, u_and, u_or, u_not, u_ts, u_toB, u_cmp, u_bl, wipe_nil, wipe_cons, List.getElem?_cons_zero, List.getElem?_cons_succ, List.set_cons_succ, List.set_cons_zero, List.map_cons, List.map_nil, List.cons_append, List.nil_append, List.replicate, if_true, List.length_cons, List.length_nil, bnd_ok]
      refine (okS_findX (fun p : Bd × Nat => EV.D.tup [.int (p.2 : Nat), tri p.1]) badI (fun _ => True) (fun ρ S' => S' = S ++ [some (.ins 0 [])] ∧ ∃ x y, ρ = [some (.cell S.length), some (.int lo), some (.int hi), some (.cell n), x, y]) ?_ (fun ρ S' z => hg _ (by rw [z.1]; exact hn' _)) rs.zipIdx _ _ (fun _ _ => trivial) ⟨rfl, _, _, rfl⟩).imp (fun ρ S' z => ?_) (fun _ _ z => z.elim) (fun _ _ z => z.elim) (fun _ _ z => z.elim) (fun e ρ S' z => ?_)
      · rintro p ρ S' _ ⟨rfl, x, y, rfl⟩
        refine ⟨hg _ (hn' _), _, by simp; rfl, ?_⟩
        unfold badI
        cases ok : LW.okR p.1 with
        | true =>
          simp only [is_rule_e, ok, Bool.not_true, Bool.false_eq_true, if_false, okS_bndS, okE_bnd, okE_ok, okS_nx, okS_rt, u_var, u_c, u_bin, u_un, u_nil, u_cons, u_tup, u_lst, chkT0, chkT1, chkT2, chkT3, chkL0, chkL1, chkL2, u_frz, u_cel, u_expr, u_ret, u_ifS, u_set, u_asg, u_asgT, u_asgN, u_nx, u_gName, u_gNilT, u_gConsT, u_gTupT, u_seqI, seqI_lst, seqI_tup, u_rng1, u_rng2, u_for, u_noP, u_part, partI_int, u_slL, slL_lst, u_app, u_callB, u_call, u_yes, u_gAdd, u_gSub, u_gNeg, u_gCmp, u_gMax2, u_gMin2, u_gLenL, ix0L, ix1L, ix2L, ix0T, ix1T, ix2T, u_newD, u_lc, u_and, u_or, u_not, u_ts, u_toB, u_cmp, u_bl, wipe_nil, wipe_cons, List.getElem?_cons_zero, List.getElem?_cons_succ, List.set_cons_succ, List.set_cons_zero, List.map_cons, List.map_nil, List.cons_append, List.nil_append, List.replicate, if_true, List.length_cons, List.length_nil, bnd_ok]
          exact ⟨trivial, trivial, _, _, rfl⟩
        | false =>
          simp only [is_rule_e, ok, Bool.not_false, okS_raise, Bool.false_eq_true, if_false, okS_bndS, okE_bnd, okE_ok, okS_nx, okS_rt, u_var, u_c, u_bin, u_un, u_nil, u_cons, u_tup, u_lst, chkT0, chkT1, chkT2, chkT3, chkL0, chkL1, chkL2, u_frz, u_cel, u_expr, u_ret, u_ifS, u_set, u_asg, u_asgT, u_asgN, u_nx, u_gName, u_gNilT, u_gConsT, u_gTupT, u_seqI, seqI_lst, seqI_tup, u_rng1, u_rng2, u_for, u_noP, u_part, partI_int, u_slL, slL_lst, u_app, u_callB, u_call, u_yes, u_gAdd, u_gSub, u_gNeg, u_gCmp, u_gMax2, u_gMin2, u_gLenL, ix0L, ix1L, ix2L, ix0T, ix1T, ix2T, u_newD, u_lc, u_and, u_or, u_not, u_ts, u_toB, u_cmp, u_bl, wipe_nil, wipe_cons, List.getElem?_cons_zero, List.getElem?_cons_succ, List.set_cons_succ, List.set_cons_zero, List.map_cons, List.map_nil, List.cons_append, List.nil_append, List.replicate, if_true, List.length_cons, List.length_nil, bnd_ok]
          refine ⟨_, rfl, ?_⟩
          simp
      · obtain ⟨z1, rfl, x, y, rfl⟩ := z
        have hl' : rs.length + 1 ≤ cap := by unfold cap; omega
        have st : ∀ r : Sto → Res (List EV.D), starE (.cell n) r (S ++ [some (.ins 0 [])]) = bnd (r (S ++ [some (.ins 0 [])])) fun ys S2 => some (.ok (tris rs ++ ys), S2) := fun r => by
          unfold starE
          have e : seqD (S ++ [some (.ins 0 [])]) (.cell n) = some (tris rs) := by
            dsimp only [seqD]
            rw [hn' (some (.ins 0 []))]
          rw [e]
        rw [rd]
        have h3 : 3 ≤ cap := by decide
        simp [chkT, tris_len, hl', putN, tri, tris_cons, st, z1, h3]
      · obtain ⟨z1, rfl, x, y, rfl⟩ := z
        exact ⟨by rw [rd]; exact z1, rfl⟩
  have tk : ∀ x : List (Option Cell), (S ++ x).take S.length = S := fun x => List.take_left' rfl
  unfold mkO
  generalize f_Book_init [.cell S.length, .int lo, .int hi, .cell n] (S ++ [some (.ins 0 [])]) = r at key ⊢
  match r, key with
  | some (.ok d, S'), key =>
    obtain ⟨rfl, k1, rfl⟩ := key
    rw [k1]
    dsimp only
    rw [List.getElem?_append_right (Nat.le_refl _), Nat.sub_self]
    dsimp only [List.getElem?_cons_zero]
    rw [tk, if_pos ⟨rfl, hS _, by simp [D.low, low_tris]⟩]
    have : D.low 0 (.tup (tris (⟨1, lo, hi⟩ :: rs))) = true := low_tris 0 _
    unfold conv_Book
    simp [this, bk]
  | some (.error e, S'), key =>
    obtain ⟨k1, rfl⟩ := key
    rw [k1]
    dsimp only
    rw [tk, if_pos]
    refine ⟨by rw [List.length_append]; omega, hS _, ?_⟩
    rcases refD_ok k1 with rfl | ⟨i, _, rfl⟩ <;> simp [D.low, D.lowAll]
end LW

/-! M37: books turned and scaled, also without rows. -/
namespace LW
open PySem PySem.Spec PyProof.Rows L2 EV CT
structure BkL (lo hi : Int) (rs : List Bd) : Prop where
  lh : lo ≤ hi
  b : ∀ b, b ∈ (⟨1, lo, hi⟩ : Bd) :: rs → b.l ≤ b.m ∧ 1 ≤ b.w ∧ b.w ≤ 40 ∧ b.l.natAbs ≤ 1000 ∧ b.m.natAbs ≤ 1000
  len : rs.length ≤ 10
theorem BkL.sm {lo hi : Int} {rs : List Bd} (h : BkL lo hi rs) : ∀ b, b ∈ (⟨1, lo, hi⟩ : Bd) :: rs → SmB b := fun b hb => by
  have := h.b b hb
  exact ⟨sm1000 (by omega), sm1000 (by omega), sm1000 (by omega)⟩
theorem BkL.okR {lo hi : Int} {rs : List Bd} (h : BkL lo hi rs) : ∀ b, b ∈ rs → LW.okR b = true := fun b hb => by
  have := h.b b (List.mem_cons_of_mem _ hb)
  unfold LW.okR
  simp
  omega
theorem BkL.tb {lo hi : Int} {rs : List Bd} (h : BkL lo hi rs) : BkL (-hi) (-lo) (rs.map LW.tb) where
  lh := by have := h.lh; omega
  b := fun b hb => by
    have e : (⟨1, -hi, -lo⟩ : Bd) :: rs.map LW.tb = ((⟨1, lo, hi⟩ : Bd) :: rs).map LW.tb := rfl
    rw [e] at hb
    obtain ⟨a, ha, rfl⟩ := List.mem_map.mp hb
    have := h.b a ha
    unfold LW.tb
    dsimp only
    omega
  len := by rw [List.length_map]; exact h.len
end LW

/-! M38: nets: places, bounds between them. -/
namespace LW
open PySem PySem.Spec PyProof.Rows L2 EV CT
def kab (a b : Int) : List L2.Key := [.inl a, .inl b]
theorem kab_inj {a b c d : Int} : kab a b = kab c d ↔ a = c ∧ b = d := by
  unfold kab
  constructor
  · intro h
    cases h
    exact ⟨rfl, rfl⟩
  · rintro ⟨rfl, rfl⟩
    rfl
theorem keyT_ab (a b : Int) : keyT (.tup [.int a, .int b]) = some (kab a b) := rfl
theorem findT_put (k j : List L2.Key) (v : EV.D) : ∀ ks : List (List L2.Key × EV.D), findT k (putT ks j v) = if j = k then some v else findT k ks := by
  intro ks
  have snoc : ∀ ks : List (List L2.Key × EV.D), findT j ks = none → findT k (ks ++ [(j, v)]) = if j = k then some v else findT k ks := by
    intro ks
    induction ks with
    | nil =>
      intro _
      show (if j = k then some v else none) = _
      rfl
    | cons p r ih =>
      intro h
      obtain ⟨q, x⟩ := p
      unfold findT at h
      split at h
      · cases h
      · rename_i hq
        show findT k ((q, x) :: (r ++ [(j, v)])) = _
        unfold findT
        by_cases c : q = k
        · rw [if_pos c, if_pos c, if_neg (fun z => hq (c.trans z.symm))]
        · rw [if_neg c, if_neg c]
          exact ih h
  have map : ∀ ks : List (List L2.Key × EV.D), findT k (ks.map (fun p => if p.1 = j then (p.1, v) else p)) = if j = k then (findT k ks).map (fun _ => v) else findT k ks := by
    intro ks
    induction ks with
    | nil => simp [findT]
    | cons p r ih =>
      obtain ⟨q, x⟩ := p
      rw [List.map_cons]
      by_cases c : q = j
      · subst c
        simp only [if_true]
        unfold findT
        by_cases d : q = k
        · rw [if_pos d, if_pos d, if_pos d]
          rfl
        · rw [if_neg d, if_neg d, if_neg d, ih, if_neg d]
      · simp only [c, if_false]
        unfold findT
        by_cases d : q = k
        · rw [if_pos d, if_pos d, if_neg (fun z => c (d.trans z.symm))]
        · rw [if_neg d, if_neg d]
          exact ih
  unfold putT
  cases h : findT j ks with
  | none =>
    simp only [Option.isSome_none, Bool.false_eq_true, if_false]
    exact snoc ks h
  | some x =>
    simp only [Option.isSome_some, if_true]
    rw [map]
    by_cases c : j = k
    · rw [if_pos c, if_pos c, ← c, h]
      rfl
    · rw [if_neg c, if_neg c]
theorem putT_len (ks : List (List L2.Key × EV.D)) (j : List L2.Key) (v : EV.D) : (putT ks j v).length ≤ ks.length + 1 := by
  unfold putT
  split
  · rw [List.length_map]; omega
  · rw [List.length_append, List.length_singleton]; omega
theorem findT_mem {k : List L2.Key} : ∀ {ks : List (List L2.Key × EV.D)}, findT k ks = none ↔ k ∉ ks.map Prod.fst
  | [] => by simp [findT]
  | (q, x) :: r => by
    unfold findT
    rw [List.map_cons, List.mem_cons]
    by_cases c : q = k
    · simp [c]
    · rw [if_neg c, findT_mem]
      constructor
      · rintro h (z | z)
        · exact c z.symm
        · exact h z
      · exact fun h z => h (.inr z)
theorem putT_nd {ks : List (List L2.Key × EV.D)} {j : List L2.Key} {v : EV.D} (h : (ks.map Prod.fst).Nodup) : ((putT ks j v).map Prod.fst).Nodup := by
  unfold putT
  split
  · rw [List.map_map]
    have : (Prod.fst ∘ fun p : List L2.Key × EV.D => if p.1 = j then (p.1, v) else p) = Prod.fst := by
      funext p
      show (if p.1 = j then (p.1, v) else p).1 = p.1
      split <;> rfl
    rw [this]
    exact h
  · rename_i z
    have e : findT j ks = none := by
      cases q : findT j ks with
      | none => rfl
      | some _ => rw [q] at z; exact absurd rfl z
    rw [List.map_append, List.nodup_append]
    refine ⟨h, by simp, fun a ha b hb => ?_⟩
    have : b = j := by simpa using hb
    rw [this]
    exact fun z2 => findT_mem.mp e (z2 ▸ ha)
theorem findT_cons {k q : List L2.Key} {x : EV.D} {r : List (List L2.Key × EV.D)} : findT k ((q, x) :: r) = if q = k then some x else findT k r := rfl
theorem findT_all (k : List L2.Key) : ∀ (ms ks : List (List L2.Key × EV.D)), (ms.map Prod.fst).Nodup → findT k (ms.foldl (fun acc p => putT acc p.1 p.2) ks) = match findT k ms with
    | some v => some v
    | none => findT k ks
  | [], ks, _ => rfl
  | (q, x) :: r, ks, h => by
    rw [List.map_cons, List.nodup_cons] at h
    rw [List.foldl_cons, findT_all k r _ h.2, findT_put]
    rw [findT_cons]
    by_cases c : q = k
    · have : findT k r = none := findT_mem.mpr (by rw [← c]; exact h.1)
      rw [this, if_pos c, if_pos c]
    · rw [if_neg c, if_neg c]
theorem putAll_len : ∀ (ms ks : List (List L2.Key × EV.D)), (ms.foldl (fun acc p => putT acc p.1 p.2) ks).length ≤ ks.length + ms.length
  | [], ks => Nat.le_refl _
  | p :: r, ks => by
    rw [List.foldl_cons]
    have a := putAll_len r (putT ks p.1 p.2)
    have b := putT_len ks p.1 p.2
    rw [List.length_cons]
    omega
theorem put_e {n : Nat} {ks : List (List L2.Key × EV.D)} {S : Sto} {a b : Int} {v : EV.D} (h : S[n]? = some (some (.dT ks))) (hl : ks.length < cap) : putTD (.cell n) (.tup [.int a, .int b]) v S = some (.ok .non, S.set n (some (.dT (putT ks (kab a b) v)))) := by
  unfold putTD
  rw [keyT_ab]
  dsimp only
  rw [h]
  dsimp only
  rw [if_pos hl]
def intv : EV.D → Bool
  | .int _ => true
  | _ => false
/-- a table of numbers is low -/
def TbI (tb : List (List L2.Key × EV.D)) : Prop := ∀ p, p ∈ tb → intv p.2 = true
theorem TbI.low {tb : List (List L2.Key × EV.D)} (h : TbI tb) (k : Nat) : lowS k (some (.dT tb)) = true := by
  show (tb.all fun p => D.low k p.2) = true
  rw [List.all_eq_true]
  intro p hp
  have := h p hp
  match p, this with
  | (_, .int _), _ => rfl
theorem TbI.put {tb : List (List L2.Key × EV.D)} (h : TbI tb) (k : List L2.Key) (i : Int) : TbI (putT tb k (.int i)) := by
  intro p hp
  unfold putT at hp
  split at hp
  · obtain ⟨q, hq, rfl⟩ := List.mem_map.mp hp
    split
    · rfl
    · exact h q hq
  · rcases List.mem_append.mp hp with hp | hp
    · exact h p hp
    · rw [List.mem_singleton.mp hp]
      rfl
theorem TbI.all : ∀ {ms ks : List (List L2.Key × EV.D)}, TbI ks → TbI ms → TbI (ms.foldl (fun acc p => putT acc p.1 p.2) ks)
  | [], ks, h, _ => h
  | (q, x) :: r, ks, h, h2 => by
    rw [List.foldl_cons]
    have hx := h2 (q, x) (List.mem_cons_self ..)
    match x, hx with
    | .int i, _ => exact TbI.all (h.put q i) fun p hp => h2 p (List.mem_cons_of_mem _ hp)
def netC (bs : List Bd) (c1 c2 : Nat) : Cell := .ins 2 [(7, bk bs), (8, .cell c1), (9, .cell c2)]
/-- a net at n: its places at c1, its table at c2 -/
structure NetS (S : Sto) (n c1 c2 : Nat) (bs : List Bd) (ps : List Int) (tb : List (List L2.Key × EV.D)) : Prop where
  h : S[n]? = some (some (netC bs c1 c2))
  h1 : S[c1]? = some (some (.lst (ps.map EV.D.int)))
  h2 : S[c2]? = some (some (.dT tb))
theorem NetS.app {S : Sto} {n c1 c2 : Nat} {bs : List Bd} {ps : List Int} {tb : List (List L2.Key × EV.D)} (N : NetS S n c1 c2 bs ps tb) (X : Sto) : NetS (S ++ X) n c1 c2 bs ps tb := by
  have g : ∀ {i : Nat} {c : Option Cell}, S[i]? = some c → (S ++ X)[i]? = some c := fun h => by
    rw [List.getElem?_append_left (List.getElem?_eq_some_iff.mp h).1]
    exact h
  exact ⟨g N.h, g N.h1, g N.h2⟩
theorem NetS.f7 {S : Sto} {n c1 c2 : Nat} {bs : List Bd} {ps : List Int} {tb : List (List L2.Key × EV.D)} (N : NetS S n c1 c2 bs ps tb) : gFld 2 7 tcs ats (.cell n) S = some (.ok (bk bs), S) := by
  unfold gFld
  dsimp only
  rw [N.h]
  rfl
theorem NetS.f8 {S : Sto} {n c1 c2 : Nat} {bs : List Bd} {ps : List Int} {tb : List (List L2.Key × EV.D)} (N : NetS S n c1 c2 bs ps tb) : gFld 2 8 tcs ats (.cell n) S = some (.ok (.cell c1), S) := by
  unfold gFld
  dsimp only
  rw [N.h]
  rfl
theorem NetS.f9 {S : Sto} {n c1 c2 : Nat} {bs : List Bd} {ps : List Int} {tb : List (List L2.Key × EV.D)} (N : NetS S n c1 c2 bs ps tb) : gFld 2 9 tcs ats (.cell n) S = some (.ok (.cell c2), S) := by
  unfold gFld
  dsimp only
  rw [N.h]
  rfl
theorem NetS.cls {S : Sto} {n c1 c2 : Nat} {bs : List Bd} {ps : List Int} {tb : List (List L2.Key × EV.D)} (N : NetS S n c1 c2 bs ps tb) : clsD tcs S (.cell n) = some 2 := by
  show (match S[n]? with | some (some (.ins c _)) => some c | _ => none) = some 2
  rw [N.h]
  rfl
theorem LowS.app {S X : Sto} (h : LowS S) (hx : ∀ k, X.all (lowS k) = true) : LowS (S ++ X) := fun k hk => by
  rw [List.all_append, hx k, h k (by rw [List.length_append] at hk; omega)]
  rfl
open Classical in
/-- what a net tells of two places -/
noncomputable def btw (bs : List Bd) (ps : List Int) (D : Int → Int → Int) (a b : Int) : Int := if a = b then 0 else if a ∈ ps ∧ b ∈ ps then D a b else gs bs (b - a)
open Classical in
def TbOk (tb : List (List L2.Key × EV.D)) (ps : List Int) (D : Int → Int → Int) : Prop := ∀ a b, findT (kab a b) tb = if a ∈ ps ∧ b ∈ ps then some (.int (D a b)) else none
end LW

/-! M39: a further place of a net. -/
namespace LW
open PySem PySem.Spec PyProof.Rows L2 EV CT
theorem toInts_at (is : List Int) : toInts (is.map EV.D.int) = some is := by
  induction is with
  | nil => rfl
  | cons i is ih => rw [List.map_cons, toInts, ih]; rfl
theorem min_cell {c : Nat} {is : List Int} {m : Int} {S : Sto} (h : S[c]? = some (some (.lst (is.map EV.D.int)))) (hm : m ∈ is ∧ ∀ x, x ∈ is → m ≤ x) : gMin1 [.cell c] S = some (.ok (.int m), S) := by
  have t : intsD S (.cell c) = some is := by
    have : lstD S (.cell c) = some (is.map EV.D.int) := by
      show (match S[c]? with | some (some (.lst xs)) => some xs | _ => none) = _
      rw [h]
    unfold intsD
    rw [this, Option.bind_some, toInts_at]
  unfold gMin1
  dsimp only
  rw [t, Option.bind_some, List.min?_eq_some_iff.mpr hm]
open Classical in
/-- the places behind a further one -/
noncomputable def addP (ps : List Int) (p : Int) : List Int := if p ∈ ps then ps else ps ++ [p]
theorem inI_cell {c : Nat} {is : List Int} {p : Int} {S : Sto} (h : S[c]? = some (some (.lst (is.map EV.D.int)))) : gInI false (.int p) (.cell c) S = some (.ok (decide (p ∈ is)), S) := by
  have t : intsD S (.cell c) = some is := by
    have : lstD S (.cell c) = some (is.map EV.D.int) := by
      show (match S[c]? with | some (some (.lst xs)) => some xs | _ => none) = _
      rw [h]
    unfold intsD
    rw [this, Option.bind_some, toInts_at]
  unfold gInI
  rw [t]
  simp
theorem at_app {S X : Sto} {i : Nat} : (S ++ X)[S.length + i]? = X[i]? := by
  rw [List.getElem?_append_right (by omega), Nat.add_sub_cancel_left]
theorem set_app {S X : Sto} {i : Nat} {c : Option Cell} : (S ++ X).set (S.length + i) c = S ++ X.set i c := by
  rw [List.set_append_right _ _ (by omega), Nat.add_sub_cancel_left]
theorem set0 {S : Sto} {x y z : Option Cell} : (S ++ [x, y]).set S.length z = S ++ [z, y] := (set_app (i := 0)).trans rfl
theorem set1 {S : Sto} {x y z : Option Cell} : (S ++ [x, y]).set (S.length + 1) z = S ++ [x, z] := (set_app (i := 1)).trans rfl
end LW

/-! M40: nets: add_place, limits, tie. -/
namespace LW
open PySem PySem.Spec PyProof.Rows L2 EV CT
/-- a net and all that is known of it -/
structure NetI (S : Sto) (n c1 c2 : Nat) (bs : List Bd) (ps : List Int) (D : Int → Int → Int) (tb : List (List L2.Key × EV.D)) : Prop where
  N : NetS S n c1 c2 bs ps tb
  T : TbOk tb ps D
  i : TbI tb
  low : LowS S
  ND : NetD bs ps D
  len : tb.length ≤ 100 * ps.length
  b : ∀ o, o ∈ ps → o.natAbs ≤ 10 ^ 50
/-- nothing but the cells of the net is changed -/
structure Kept2 (S S' : Sto) (c1 c2 : Nat) : Prop where
  len : S'.length = S.length
  at_ : ∀ m, m ≠ c1 → m ≠ c2 → S'[m]? = S[m]?
theorem Kept2.refl (S : Sto) (c1 c2 : Nat) : Kept2 S S c1 c2 := ⟨rfl, fun _ _ _ => rfl⟩
theorem Kept2.trans {S S' S'' : Sto} {c1 c2 : Nat} (a : Kept2 S S' c1 c2) (b : Kept2 S' S'' c1 c2) : Kept2 S S'' c1 c2 := ⟨b.len.trans a.len, fun m h1 h2 => (b.at_ m h1 h2).trans (a.at_ m h1 h2)⟩
theorem NetS.ne {S : Sto} {n c1 c2 : Nat} {bs : List Bd} {ps : List Int} {tb : List (List L2.Key × EV.D)} (N : NetS S n c1 c2 bs ps tb) : n ≠ c1 ∧ n ≠ c2 ∧ c1 ≠ c2 ∧ n < S.length ∧ c1 < S.length ∧ c2 < S.length := by
  refine ⟨fun z => ?_, fun z => ?_, fun z => ?_, (List.getElem?_eq_some_iff.mp N.h).1, (List.getElem?_eq_some_iff.mp N.h1).1, (List.getElem?_eq_some_iff.mp N.h2).1⟩
  · have := N.h1; rw [← z, N.h] at this; cases this
  · have := N.h2; rw [← z, N.h] at this; cases this
  · have := N.h2; rw [← z, N.h1] at this; cases this
theorem lowS_set {S : Sto} {i : Nat} {c : Option Cell} (h : LowS S) (hc : ∀ k, lowS k c = true) : LowS (S.set i c) := fun k hk => by
  rw [List.length_set] at hk
  rw [List.all_eq_true]
  intro x hx
  rcases List.mem_or_eq_of_mem_set hx with z | z
  · exact List.all_eq_true.mp (h k hk) x z
  · rw [z]; exact hc k
open Classical in
theorem addP_in {ps : List Int} {p : Int} : ∀ o, o ∈ addP ps p ↔ o ∈ ps ∨ o = p := fun o => by
  unfold addP
  split
  · rename_i h
    exact ⟨.inl, fun z => z.elim id fun z => z ▸ h⟩
  · simp
end LW

/-! M41: nets: limits, tie. -/
namespace LW
open PySem PySem.Spec PyProof.Rows L2 EV CT
noncomputable def addE (ps : List Int) (b l : Int) : List Int := addP (addP ps b) (b + l)
theorem addE_in {ps : List Int} {b l : Int} : b ∈ addE ps b l ∧ b + l ∈ addE ps b l ∧ ∀ o, o ∈ ps → o ∈ addE ps b l := by
  unfold addE
  exact ⟨addP_in b |>.mpr (.inl (addP_in b |>.mpr (.inr rfl))), addP_in _ |>.mpr (.inr rfl), fun o ho => addP_in o |>.mpr (.inl (addP_in o |>.mpr (.inl ho)))⟩
open Classical in
theorem addP_len (ps : List Int) (p : Int) : (addP ps p).length ≤ ps.length + 1 := by
  unfold addP
  split
  · omega
  · rw [List.length_append, List.length_singleton]; omega
theorem addE_len (ps : List Int) (b l : Int) : (addE ps b l).length ≤ ps.length + 2 := by
  have := addP_len (addP ps b) (b + l)
  have := addP_len ps b
  unfold addE
  omega
theorem two_sm {x y : Int} (h1 : x.natAbs ≤ 10 ^ 50) (h2 : y.natAbs ≤ 10 ^ 50) : Sm (x - y) := Sm.of (n := 10 ^ 50 + 10 ^ 50) (by omega) (by decide +kernel)
/-- a table for the pairs that are done -/
structure FndOk (fk : List (List L2.Key × EV.D)) (ps done : List Int) (one : Int) (done2 : List Int) (D : Int → Int → Int) : Prop where
  t : TbI fk
  len : fk.length ≤ done.length * ps.length + done2.length
  f1 : ∀ a b, (a ∈ done ∧ b ∈ ps) ∨ (a = one ∧ b ∈ done2) → findT (kab a b) fk = some (.int (D a b))
  f2 : ∀ a b, ¬ ((a ∈ done ∧ b ∈ ps) ∨ (a = one ∧ b ∈ done2)) → findT (kab a b) fk = none
theorem FndOk.put {fk : List (List L2.Key × EV.D)} {ps done : List Int} {one o : Int} {done2 : List Int} {D : Int → Int → Int} (h : FndOk fk ps done one done2 D) : FndOk (putT fk (kab one o) (.int (D one o))) ps done one (done2 ++ [o]) D := by
  have fe : ∀ a b, findT (kab a b) (putT fk (kab one o) (.int (D one o))) = if one = a ∧ o = b then some (.int (D one o)) else findT (kab a b) fk := fun a b => by
    rw [findT_put]
    simp only [kab_inj]
  refine ⟨h.t.put _ _, ?_, fun a b hab => ?_, fun a b hab => ?_⟩
  · have := putT_len fk (kab one o) (.int (D one o))
    have := h.len
    rw [List.length_append, List.length_singleton]
    omega
  · rw [fe]
    by_cases c : one = a ∧ o = b
    · rw [if_pos c, c.1, c.2]
    · rw [if_neg c]
      refine h.f1 a b (hab.imp id fun z => ⟨z.1, ?_⟩)
      rcases List.mem_append.mp z.2 with k | k
      · exact k
      · exact absurd ⟨z.1.symm, (List.mem_singleton.mp k).symm⟩ c
  · rw [fe, if_neg]
    · exact h.f2 a b fun z => hab (z.imp id fun z => ⟨z.1, List.mem_append_left _ z.2⟩)
    · rintro ⟨rfl, rfl⟩
      exact hab (.inr ⟨rfl, by simp⟩)
theorem FndOk.row {fk : List (List L2.Key × EV.D)} {ps done : List Int} {one : Int} {D : Int → Int → Int} (h : FndOk fk ps done one ps D) (one' : Int) : FndOk fk ps (done ++ [one]) one' [] D := by
  refine ⟨h.t, ?_, fun a b hab => ?_, fun a b hab => ?_⟩
  · have := h.len
    rw [List.length_append, List.length_singleton, Nat.add_mul]
    simp
    omega
  · refine h.f1 a b ?_
    rcases hab with ⟨z1, z2⟩ | ⟨_, z⟩
    · rcases List.mem_append.mp z1 with k | k
      · exact .inl ⟨k, z2⟩
      · exact .inr ⟨List.mem_singleton.mp k, z2⟩
    · exact absurd z List.not_mem_nil
  · refine h.f2 a b fun z => hab (.inl ?_)
    rcases z with ⟨z1, z2⟩ | ⟨z1, z2⟩
    · exact ⟨List.mem_append_left _ z1, z2⟩
    · exact ⟨by simp [z1], z2⟩
theorem last_put {S : Sto} {x y : Option Cell} : (S ++ [x]).set S.length y = S ++ [y] := (set_app (i := 0)).trans rfl
theorem last_get {S : Sto} {x : Option Cell} : (S ++ [x])[S.length]? = some x := (at_app (i := 0)).trans rfl
end LW

/-! M42: nets with known sums. -/
namespace LW
open PySem PySem.Spec PyProof.Rows L2 EV CT
/-- a net behind a store that stays -/
structure NetP (S0 S : Sto) (n c1 c2 : Nat) (bs : List Bd) (ps : List Int) (D : Int → Int → Int) (tb : List (List L2.Key × EV.D)) : Prop where
  I : NetI S n c1 c2 bs ps D tb
  pre : ∀ m, m < S0.length → S[m]? = S0[m]?
  hn : S0.length ≤ n
  h1 : S0.length ≤ c1
  h2 : S0.length ≤ c2
theorem take_pre {S0 S : Sto} (h : ∀ m, m < S0.length → S[m]? = S0[m]?) (hl : S0.length ≤ S.length) : S.take S0.length = S0 := by
  refine List.ext_getElem? fun m => ?_
  rw [List.getElem?_take]
  split
  · rename_i hm
    exact h m hm
  · rename_i hm
    rw [List.getElem?_eq_none (by omega)]
theorem NetP.long {S0 S : Sto} {n c1 c2 : Nat} {bs : List Bd} {ps : List Int} {D : Int → Int → Int} {tb : List (List L2.Key × EV.D)} (h : NetP S0 S n c1 c2 bs ps D tb) : S0.length ≤ S.length := by
  have := h.I.N.ne
  have := h.hn
  omega
theorem NetP.kept {S0 S S' : Sto} {n c1 c2 : Nat} {bs : List Bd} {ps ps' : List Int} {D : Int → Int → Int} {tb tb' : List (List L2.Key × EV.D)} (h : NetP S0 S n c1 c2 bs ps D tb) (I : NetI S' n c1 c2 bs ps' D tb') (k : Kept2 S S' c1 c2) : NetP S0 S' n c1 c2 bs ps' D tb' :=
  ⟨I, fun m hm => (k.at_ m (by have := h.h1; omega) (by have := h.h2; omega)).trans (h.pre m hm), h.hn, h.h1, h.h2⟩
end LW

/-! M43: known sums. -/
namespace LW
open PySem PySem.Spec PyProof.Rows L2 EV CT
/-- a known sum -/
def tie3 (k : Int × Int × Int) : EV.D := .tup [.int k.1, .int k.2.1, .int k.2.2]
/-- the number of the first known sum that does not go with those ahead of it -/
def untied : List (Int × Int × Int) → (Int → Int → Int) → Nat → Option Nat
  | [], _, _ => none
  | (b, l, t) :: r, D, i => if -D (b + l) b ≤ t ∧ t ≤ D b (b + l) then untied r (tieD D b (b + l) t) (i + 1) else some i
noncomputable def endP : List (Int × Int × Int) → List Int → List Int
  | [], ps => ps
  | (b, l, _) :: r, ps => endP r (addE ps b l)
def endD : List (Int × Int × Int) → (Int → Int → Int) → Int → Int → Int
  | [], D => D
  | (b, l, t) :: r, D => endD r (tieD D b (b + l) t)
theorem endP_len : ∀ (ks : List (Int × Int × Int)) (ps : List Int), (endP ks ps).length ≤ ps.length + 2 * ks.length
  | [], ps => Nat.le_refl _
  | (b, l, _) :: r, ps => by
    have := endP_len r (addE ps b l)
    have := addE_len ps b l
    rw [List.length_cons]
    unfold endP
    omega
def natD : Option Nat → EV.D
  | none => .non
  | some i => .int (i : Nat)
def NearK (ks : List (Int × Int × Int)) : Prop := ∀ k, k ∈ ks → k.1.natAbs ≤ 10 ^ 50 ∧ (k.1 + k.2.1).natAbs ≤ 10 ^ 50 ∧ 1 ≤ k.2.1
end LW

/-! M44: what known sums make sure. -/
namespace LW
open PySem PySem.Spec PyProof.Rows L2 EV CT
/-- known sums as data -/
structure KnD (kd : EV.D) (all : List (Int × Int × Int)) : Prop where
  e : enI [kd] = fun S => some (.ok (enumD (all.map tie3), fun _ => True), S)
  near : NearK all
  len : all.length ≤ 15
theorem KnD.lst {all : List (Int × Int × Int)} (near : NearK all) (len : all.length ≤ 15) : KnD (.lst (all.map tie3)) all := ⟨by funext S; rfl, near, len⟩
theorem KnD.nil : KnD (.lst []) [] := .lst (fun _ h => (List.not_mem_nil h).elim) (Nat.zero_le _)
end LW

/-! M45: early and late rows. -/
namespace LW
open PySem PySem.Spec PyProof.Rows L2 EV CT
def markD (g : Int) (D : Int → Int → Int) (o : Int) : EV.D := .tup [.int o, .int (D g o), .int (D o g)]
def frontC (bs : List Bd) (g : Int) (ps : List Int) (D : Int → Int → Int) : Cell := .ins 3 [(7, bk bs), (10, .int g), (11, .lst (ps.map (markD g D)))]
/-- a front at f behind a store that stays -/
structure FrP (S0 S : Sto) (f : Nat) (bs : List Bd) (g : Int) (ps : List Int) (D : Int → Int → Int) : Prop where
  h : S[f]? = some (some (frontC bs g ps D))
  low : LowS S
  pre : ∀ m, m < S0.length → S[m]? = S0[m]?
  long : S0.length ≤ S.length
  ND : NetD bs ps D
  gp : g ∈ ps
  b : ∀ o, o ∈ ps → o.natAbs ≤ 10 ^ 50
  len : ps.length ≤ 40
end LW

/-! M46: sums and days of early and late rows. -/
namespace LW
open PySem PySem.Spec PyProof.Rows L2 EV CT
theorem FrP.f7 {S0 S : Sto} {f : Nat} {bs : List Bd} {g : Int} {ps : List Int} {D : Int → Int → Int} (F : FrP S0 S f bs g ps D) : gFld 3 7 tcs ats (.cell f) S = some (.ok (bk bs), S) := by
  unfold gFld
  dsimp only
  rw [F.h]
  rfl
theorem FrP.f11 {S0 S : Sto} {f : Nat} {bs : List Bd} {g : Int} {ps : List Int} {D : Int → Int → Int} (F : FrP S0 S f bs g ps D) : gFld 3 11 tcs ats (.cell f) S = some (.ok (.lst (ps.map (markD g D))), S) := by
  unfold gFld
  dsimp only
  rw [F.h]
  rfl
theorem FrP.cls {S0 S : Sto} {f : Nat} {bs : List Bd} {g : Int} {ps : List Int} {D : Int → Int → Int} (F : FrP S0 S f bs g ps D) : clsD tcs S (.cell f) = some 3 := by
  show (match S[f]? with | some (some (.ins c _)) => some c | _ => none) = some 3
  rw [F.h]
  rfl
theorem min_lst {is : List Int} {m : Int} {S : Sto} (hm : m ∈ is ∧ ∀ x, x ∈ is → m ≤ x) : gMin1 [.lst (is.map EV.D.int)] S = some (.ok (.int m), S) := min_ints (List.min?_eq_some_iff.mpr hm)
theorem range_map (lo : Int) (k : Nat) : rangeD lo k = (List.range k).map fun i => EV.D.int (lo + (i : Nat)) := rfl
end LW

/-! M47: known sums plainly: the net of them is the greatest one that keeps them. -/
namespace LW
open CT
abbrev Kn := Int × Int × Int
/-- a way to measure between places that keeps a book and known sums -/
structure Und (bs : List Bd) (ks : List Kn) (E : Int → Int → Int) : Prop where
  tri : ∀ a b c, E a c ≤ E a b + E b c
  self : ∀ a, 0 ≤ E a a
  le : ∀ a b, E a b ≤ gs bs (b - a)
  tie : ∀ k, k ∈ ks → E k.1 (k.1 + k.2.1) ≤ k.2.2 ∧ E (k.1 + k.2.1) k.1 ≤ -k.2.2
noncomputable def gs0 (bs : List Bd) : Int → Int → Int := fun a b => gs bs (b - a)
theorem tieD_top {D E : Int → Int → Int} {b e t : Int} (tri : ∀ a b c, E a c ≤ E a b + E b c) (le : ∀ a b, E a b ≤ D a b) (h1 : E b e ≤ t) (h2 : E e b ≤ -t) (x y : Int) : E x y ≤ tieD D b e t x y := by
  have a1 := tri x b y
  have a2 := tri b e y
  have a3 := tri x e y
  have a4 := tri e b y
  have l1 := le x y
  have l2 := le x b
  have l3 := le e y
  have l4 := le x e
  have l5 := le b y
  rcases (tieD_cases D b e t x y).2 with c | c | c <;> omega
theorem end_top {E : Int → Int → Int} (tri : ∀ a b c, E a c ≤ E a b + E b c) (self : ∀ a, 0 ≤ E a a) : ∀ (ks : List Kn) (D : Int → Int → Int) (i : Nat), (∀ a b, E a b ≤ D a b) →
    (∀ k, k ∈ ks → E k.1 (k.1 + k.2.1) ≤ k.2.2 ∧ E (k.1 + k.2.1) k.1 ≤ -k.2.2) → untied ks D i = none ∧ ∀ x y, E x y ≤ endD ks D x y
  | [], D, i, le, _ => ⟨rfl, le⟩
  | (b, l, t) :: r, D, i, le, tie => by
    obtain ⟨h1, h2⟩ := tie _ (List.mem_cons_self ..)
    have h1 : E b (b + l) ≤ t := h1
    have h2 : E (b + l) b ≤ -t := h2
    have q := tri b (b + l) b
    have q' := tri (b + l) b (b + l)
    have s := self b
    have s' := self (b + l)
    have l1 := le b (b + l)
    have l2 := le (b + l) b
    have := end_top tri self r (tieD D b (b + l) t) (i + 1) (tieD_top tri le h1 h2) fun k hk => tie k (List.mem_cons_of_mem _ hk)
    rw [untied, if_pos ⟨by omega, by omega⟩]
    exact this
theorem Und.top {bs : List Bd} {ks : List Kn} {E : Int → Int → Int} (h : Und bs ks E) (i : Nat) : untied ks (fun a b => gs bs (b - a)) i = none ∧ ∀ x y, E x y ≤ endD ks (fun a b => gs bs (b - a)) x y := end_top h.tri h.self ks _ i h.le h.tie
theorem end_net {bs : List Bd} : ∀ (ks : List Kn) {ps : List Int} {D : Int → Int → Int} {i : Nat}, NetD bs ps D → untied ks D i = none →
    NetD bs (endP ks ps) (endD ks D) ∧ (∀ x y, endD ks D x y ≤ D x y) ∧ ∀ k, k ∈ ks → endD ks D k.1 (k.1 + k.2.1) ≤ k.2.2 ∧ endD ks D (k.1 + k.2.1) k.1 ≤ -k.2.2
  | [], _, _, _, N, _ => ⟨N, fun _ _ => Int.le_refl _, fun _ h => (List.not_mem_nil h).elim⟩
  | (b, l, t) :: r, ps, D, i, N, h => by
    unfold untied at h
    split at h
    · rename_i c
      have A := addE_in (ps := ps) (b := b) (l := l)
      have N' := (N.more (qs := addE ps b l) A.2.2).tie A.1 A.2.1 c.1 c.2
      obtain ⟨q1, q2, q3⟩ := end_net r N' h
      have tl := fun x y => (tieD_cases D b (b + l) t x y).1
      refine ⟨q1, fun x y => Int.le_trans (q2 x y) (tl x y).1, fun k hk => ?_⟩
      rcases List.mem_cons.mp hk with rfl | hk
      · have s1 := N.self b
        have s2 := N.self (b + l)
        have a1 := q2 b (b + l)
        have a2 := (tl b (b + l)).2.1
        have a3 := q2 (b + l) b
        have a4 := (tl (b + l) b).2.2
        constructor
        · show endD r (tieD D b (b + l) t) b (b + l) ≤ t
          omega
        · show endD r (tieD D b (b + l) t) (b + l) b ≤ -t
          omega
      · exact q3 k hk
    · cases h
theorem NetD.und {bs : List Bd} {ps : List Int} {D : Int → Int → Int} {ks : List Kn} (N : NetD bs ps D) (tie : ∀ k, k ∈ ks → D k.1 (k.1 + k.2.1) ≤ k.2.2 ∧ D (k.1 + k.2.1) k.1 ≤ -k.2.2) : Und bs ks D := ⟨N.tri, fun a => Int.le_of_eq (N.self a).symm, N.le, tie⟩
/-- what known sums that fit make sure -/
theorem end_is {bs : List Bd} (B : Bk bs) {ks : List Kn} (h : untied ks (fun a b => gs bs (b - a)) 0 = none) : NetD bs (endP ks []) (endD ks fun a b => gs bs (b - a)) ∧ Und bs ks (endD ks fun a b => gs bs (b - a)) := by
  obtain ⟨a, b, c⟩ := end_net ks (NetD.nil B) h
  exact ⟨a, a.und c⟩
theorem Und.eq {bs : List Bd} {ks : List Kn} {E : Int → Int → Int} (h : Und bs ks E) {k : Kn} (hk : k ∈ ks) : E k.1 (k.1 + k.2.1) = k.2.2 ∧ E (k.1 + k.2.1) k.1 = -k.2.2 := by
  obtain ⟨h1, h2⟩ := h.tie k hk
  have q := h.tri k.1 (k.1 + k.2.1) k.1
  have s := h.self k.1
  omega
theorem Und.neg {bs : List Bd} {ks : List Kn} {E : Int → Int → Int} (h : Und bs ks E) (a b : Int) : -E b a ≤ E a b := by
  have := h.tri a b a
  have := h.self a
  omega
/-- other known sums that are told by these -/
theorem Und.to {bs : List Bd} {ks ks' : List Kn} {E : Int → Int → Int} (h : Und bs ks E) (t : ∀ k, k ∈ ks' → E k.1 (k.1 + k.2.1) ≤ k.2.2 ∧ E (k.1 + k.2.1) k.1 ≤ -k.2.2) : Und bs ks' E := ⟨h.tri, h.self, h.le, t⟩
theorem end_sub {bs : List Bd} (B : Bk bs) {ks ks' : List Kn} (h : untied ks (fun a b => gs bs (b - a)) 0 = none) (t : ∀ E, Und bs ks E → ∀ k, k ∈ ks' → E k.1 (k.1 + k.2.1) ≤ k.2.2 ∧ E (k.1 + k.2.1) k.1 ≤ -k.2.2) :
    untied ks' (fun a b => gs bs (b - a)) 0 = none ∧ ∀ x y, endD ks (fun a b => gs bs (b - a)) x y ≤ endD ks' (fun a b => gs bs (b - a)) x y := by
  have U := (end_is B h).2
  exact (U.to (t _ U)).top 0
theorem end_same {bs : List Bd} (B : Bk bs) {ks ks' : List Kn} (h : untied ks (fun a b => gs bs (b - a)) 0 = none) (t : ∀ E, Und bs ks E → ∀ k, k ∈ ks' → E k.1 (k.1 + k.2.1) ≤ k.2.2 ∧ E (k.1 + k.2.1) k.1 ≤ -k.2.2)
    (t' : ∀ E, Und bs ks' E → ∀ k, k ∈ ks → E k.1 (k.1 + k.2.1) ≤ k.2.2 ∧ E (k.1 + k.2.1) k.1 ≤ -k.2.2) : untied ks' (fun a b => gs bs (b - a)) 0 = none ∧ (endD ks' fun a b => gs bs (b - a)) = endD ks fun a b => gs bs (b - a) := by
  obtain ⟨u, l⟩ := end_sub B h t
  obtain ⟨_, l'⟩ := end_sub B u t'
  refine ⟨u, funext fun x => funext fun y => ?_⟩
  exact Int.le_antisymm (l' x y) (l x y)
theorem end_perm {bs : List Bd} (B : Bk bs) {ks ks' : List Kn} (h : untied ks (fun a b => gs bs (b - a)) 0 = none) (m : ∀ k, k ∈ ks' ↔ k ∈ ks) : untied ks' (fun a b => gs bs (b - a)) 0 = none ∧ (endD ks' fun a b => gs bs (b - a)) = endD ks fun a b => gs bs (b - a) :=
  end_same B h (fun E U k hk => U.tie k ((m k).mp hk)) fun E U k hk => U.tie k ((m k).mpr hk)
theorem Row.und {bs : List Bd} (B : Bk bs) {ks : List Kn} {x : Int → Int} (R : Row bs x) (t : ∀ k, k ∈ ks → x (k.1 + k.2.1) - x k.1 = k.2.2) : Und bs ks fun a b => x b - x a where
  tri := fun a b c => by omega
  self := fun a => by omega
  le := fun a b => by
    have := R.le B a (b - a)
    rwa [show a + (b - a) = b by omega] at this
  tie := fun k hk => by
    have := t k hk
    omega
theorem untied_app : ∀ (ks : List Kn) (k : Kn) (D : Int → Int → Int) (i : Nat), untied ks D i = none →
    untied (ks ++ [k]) D i = if -endD ks D (k.1 + k.2.1) k.1 ≤ k.2.2 ∧ k.2.2 ≤ endD ks D k.1 (k.1 + k.2.1) then none else some (i + ks.length)
  | [], (b, l, t), D, i, _ => by
    show (if -D (b + l) b ≤ t ∧ t ≤ D b (b + l) then none else some i) = _
    rfl
  | (b, l, t) :: r, k, D, i, h => by
    unfold untied at h
    split at h
    · rename_i c
      rw [List.cons_append, untied, if_pos c, untied_app r k _ _ h, List.length_cons]
      show (if -endD r (tieD D b (b + l) t) (k.1 + k.2.1) k.1 ≤ k.2.2 ∧ k.2.2 ≤ endD r (tieD D b (b + l) t) k.1 (k.1 + k.2.1) then none else some (i + 1 + r.length)) = if -endD r (tieD D b (b + l) t) (k.1 + k.2.1) k.1 ≤ k.2.2 ∧ k.2.2 ≤ endD r (tieD D b (b + l) t) k.1 (k.1 + k.2.1) then none else some (i + (r.length + 1))
      rw [show i + 1 + r.length = i + (r.length + 1) by omega]
    · cases h
theorem untied_more : ∀ (ks ks' : List Kn) (D : Int → Int → Int) (i j : Nat), untied ks D i = some j → untied (ks ++ ks') D i = some j
  | [], _, D, i, j, h => by cases h
  | (b, l, t) :: r, ks', D, i, j, h => by
    unfold untied at h
    rw [List.cons_append, untied]
    split at h
    · rename_i c
      rw [if_pos c]
      exact untied_more r ks' _ _ _ h
    · rename_i c
      rw [if_neg c]
      exact h
theorem endD_app : ∀ (ks ks' : List Kn) (D : Int → Int → Int), endD (ks ++ ks') D = endD ks' (endD ks D)
  | [], _, _ => rfl
  | (b, l, t) :: r, ks', D => endD_app r ks' (tieD D b (b + l) t)
/-! ### moved, turned, scaled -/
theorem tieD_hom {D D' : Int → Int → Int} {f : Int → Int} {w : Int → Int → Int} {c b e t b' e' t' : Int} (c0 : 0 < c) (hb : f b = b') (he : f e = e') (h : ∀ x y, D' (f x) (f y) = c * D x y + w x y) (w3 : ∀ x y z, w x y + w y z = w x z) (ht : t' = c * t + w b e) (x y : Int) :
    tieD D' b' e' t' (f x) (f y) = c * tieD D b e t x y + w x y := by
  have h1 := h x y
  have h2 := h x b
  have h3 := h e y
  have h4 := h x e
  have h5 := h b y
  rw [hb] at h2 h5
  rw [he] at h3 h4
  have a1 := w3 x b e
  have a2 := w3 x e y
  have a3 := w3 x b y
  have a4 := w3 x y x
  have a5 := w3 b e y
  have m : ∀ u v : Int, u < v ↔ c * u < c * v := fun u v => ⟨fun z => Int.mul_lt_mul_of_pos_left z c0, fun z => Int.lt_of_mul_lt_mul_left z (by omega)⟩
  unfold tieD
  rw [h1, h2, h3, h4, h5, ht]
  have e1 : c * D x b + w x b + (c * t + w b e) + (c * D e y + w e y) = c * (D x b + t + D e y) + w x y := by
    rw [Int.mul_add, Int.mul_add]
    omega
  have e2 : c * D x e + w x e - (c * t + w b e) + (c * D b y + w b y) = c * (D x e - t + D b y) + w x y := by
    rw [Int.mul_add, Int.mul_sub]
    omega
  rw [e1, e2]
  have i1 : ∀ u v : Int, (c * u + w x y < c * v + w x y) ↔ u < v := fun u v => by rw [m u v]; omega
  have i2 : ∀ u v : Int, (if c * u + w x y < c * v + w x y then c * u + w x y else c * v + w x y) = c * (if u < v then u else v) + w x y := fun u v => by
    by_cases z : u < v
    · rw [if_pos ((i1 u v).mpr z), if_pos z]
    · rw [if_neg (fun q => z ((i1 u v).mp q)), if_neg z]
  rw [i2, i2]
theorem end_hom {f : Int → Int} {w : Int → Int → Int} {c : Int} (c0 : 0 < c) (w3 : ∀ x y z, w x y + w y z = w x z) (g : Kn → Kn) : ∀ (ks : List Kn) {D D' : Int → Int → Int} {i : Nat},
    (∀ k, k ∈ ks → f k.1 = (g k).1 ∧ f (k.1 + k.2.1) = (g k).1 + (g k).2.1 ∧ (g k).2.2 = c * k.2.2 + w k.1 (k.1 + k.2.1)) → (∀ x y, D' (f x) (f y) = c * D x y + w x y) →
    untied (ks.map g) D' i = untied ks D i ∧ (untied ks D i = none → ∀ x y, endD (ks.map g) D' (f x) (f y) = c * endD ks D x y + w x y)
  | [], D, D', i, _, h => ⟨rfl, fun _ => h⟩
  | k :: r, D, D', i, hk, h => by
    obtain ⟨k1, k2, k3⟩ := hk k (List.mem_cons_self ..)
    have ih := end_hom c0 w3 g r (D := tieD D k.1 (k.1 + k.2.1) k.2.2) (D' := tieD D' (g k).1 ((g k).1 + (g k).2.1) (g k).2.2) (i := i + 1) (fun k z => hk k (List.mem_cons_of_mem _ z)) (tieD_hom c0 k1 k2 h w3 k3)
    have c1 := h (k.1 + k.2.1) k.1
    have c2 := h k.1 (k.1 + k.2.1)
    rw [k1, k2] at c1 c2
    have w0 := w3 k.1 k.1 k.1
    have w1 := w3 k.1 (k.1 + k.2.1) k.1
    have m : ∀ u v : Int, u ≤ v ↔ c * u ≤ c * v := fun u v => ⟨fun z => Int.mul_le_mul_of_nonneg_left z (by omega), fun z => Int.le_of_mul_le_mul_left z c0⟩
    have cc : (-D' ((g k).1 + (g k).2.1) (g k).1 ≤ (g k).2.2 ∧ (g k).2.2 ≤ D' (g k).1 ((g k).1 + (g k).2.1)) ↔ (-D (k.1 + k.2.1) k.1 ≤ k.2.2 ∧ k.2.2 ≤ D k.1 (k.1 + k.2.1)) := by
      have n1 : c * (-D (k.1 + k.2.1) k.1) = -(c * D (k.1 + k.2.1) k.1) := Int.mul_neg ..
      have m1 := m (-D (k.1 + k.2.1) k.1) k.2.2
      have m2 := m k.2.2 (D k.1 (k.1 + k.2.1))
      rw [n1] at m1
      rw [c1, c2, k3, m1, m2]
      omega
    rw [List.map_cons]
    show (if -D' ((g k).1 + (g k).2.1) (g k).1 ≤ (g k).2.2 ∧ (g k).2.2 ≤ D' (g k).1 ((g k).1 + (g k).2.1) then untied (r.map g) _ (i + 1) else some i) = (if -D (k.1 + k.2.1) k.1 ≤ k.2.2 ∧ k.2.2 ≤ D k.1 (k.1 + k.2.1) then untied r _ (i + 1) else some i) ∧ ((if -D (k.1 + k.2.1) k.1 ≤ k.2.2 ∧ k.2.2 ≤ D k.1 (k.1 + k.2.1) then untied r _ (i + 1) else some i) = none → _)
    by_cases z : -D (k.1 + k.2.1) k.1 ≤ k.2.2 ∧ k.2.2 ≤ D k.1 (k.1 + k.2.1)
    · rw [if_pos z, if_pos (cc.mpr z)]
      exact ih
    · rw [if_neg z, if_neg (fun q => z (cc.mp q))]
      exact ⟨rfl, fun q => by cases q⟩
end LW

/-! M48: days of early and late rows. -/
namespace LW
open PySem PySem.Spec PyProof.Rows L2 EV CT
theorem FrP.take {S0 S : Sto} {f : Nat} {bs : List Bd} {g : Int} {ps : List Int} {D : Int → Int → Int} (F : FrP S0 S f bs g ps D) : S.take S0.length = S0 := take_pre F.pre F.long
/-- the days of the early row, as a list -/
def eds (D : Int → Int → Int) (g : Int) (n : Nat) : List Int := (List.range n).map fun i : Nat => D g (g + ((i + 1 : Nat) : Int)) - D g (g + (i : Nat))
def lds (D : Int → Int → Int) (g : Int) (n : Nat) : List Int := (List.range n).map fun i : Nat => -D (g + ((i + 1 : Nat) : Int)) g - -D (g + (i : Nat)) g
theorem eds_len {D : Int → Int → Int} {g : Int} {n : Nat} : (eds D g n).length = n := by unfold eds; rw [List.length_map, List.length_range]
theorem lds_len {D : Int → Int → Int} {g : Int} {n : Nat} : (lds D g n).length = n := by unfold lds; rw [List.length_map, List.length_range]
/-! ### sums of their first days -/
theorem eds_pre {D : Int → Int → Int} {g : Int} (h0 : D g g = 0) {n : Nat} : ∀ i : Nat, i ≤ n → ((eds D g n).take i).sum = D g (g + (i : Nat))
  | 0, _ => by
    rw [List.take_zero, List.sum_nil, show g + ((0 : Nat) : Int) = g by omega, h0]
  | i + 1, h => by
    have e : (eds D g n)[i]? = some (D g (g + ((i + 1 : Nat) : Int)) - D g (g + (i : Nat))) := by
      unfold eds
      rw [List.getElem?_map, List.getElem?_range (by omega)]
      rfl
    rw [List.take_add_one, List.sum_append, eds_pre h0 i (by omega), e]
    simp
    omega
theorem lds_pre {D : Int → Int → Int} {g : Int} (h0 : D g g = 0) {n : Nat} : ∀ i : Nat, i ≤ n → ((lds D g n).take i).sum = -D (g + (i : Nat)) g
  | 0, _ => by
    rw [List.take_zero, List.sum_nil, show g + ((0 : Nat) : Int) = g by omega, h0]
    rfl
  | i + 1, h => by
    have e : (lds D g n)[i]? = some (-D (g + ((i + 1 : Nat) : Int)) g - -D (g + (i : Nat)) g) := by
      unfold lds
      rw [List.getElem?_map, List.getElem?_range (by omega)]
      rfl
    rw [List.take_add_one, List.sum_append, lds_pre h0 i (by omega), e]
    simp
    omega
theorem eds_fits {bs : List Bd} {ps : List Int} {D : Int → Int → Int} (N : NetD bs ps D) (g : Int) (n : Nat) : Fits bs (eds D g n) := fun i j hi hj => by
  rw [eds_len] at hi hj
  unfold pre
  rw [eds_pre (N.self g) i hi, eds_pre (N.self g) j hj]
  have t := N.tri g (g + (i : Nat)) (g + (j : Nat))
  have l := N.le (g + (i : Nat)) (g + (j : Nat))
  rw [show g + (j : Nat) - (g + (i : Nat)) = (j : Int) - i by omega] at l
  omega
theorem lds_fits {bs : List Bd} {ps : List Int} {D : Int → Int → Int} (N : NetD bs ps D) (g : Int) (n : Nat) : Fits bs (lds D g n) := fun i j hi hj => by
  rw [lds_len] at hi hj
  unfold pre
  rw [lds_pre (N.self g) i hi, lds_pre (N.self g) j hj]
  have t := N.tri (g + (i : Nat)) (g + (j : Nat)) g
  have l := N.le (g + (i : Nat)) (g + (j : Nat))
  rw [show g + (j : Nat) - (g + (i : Nat)) = (j : Int) - i by omega] at l
  omega
end LW

/-! M49: places of early rows. -/
namespace LW
open PySem PySem.Spec PyProof.Rows L2 EV CT
theorem endP_b {M : Nat} : ∀ (all : List Kn) (ps : List Int), (∀ k, k ∈ all → k.1.natAbs ≤ M ∧ (k.1 + k.2.1).natAbs ≤ M) → (∀ o, o ∈ ps → o.natAbs ≤ M) → ∀ o, o ∈ endP all ps → o.natAbs ≤ M
  | [], ps, _, h => h
  | (b, l, t) :: r, ps, hk, h => by
    have k0 := hk _ (List.mem_cons_self ..)
    refine endP_b r (addE ps b l) (fun k z => hk k (List.mem_cons_of_mem _ z)) fun o ho => ?_
    have e : addE ps b l = addP (addP ps b) (b + l) := rfl
    rw [e] at ho
    rcases (addP_in o).mp ho with ho | rfl
    · rcases (addP_in o).mp ho with ho | rfl
      · exact h o ho
      · exact k0.1
    · exact k0.2
theorem NetD.step {bs : List Bd} {ps : List Int} {D : Int → Int → Int} (N : NetD bs ps D) (h0 : gs bs (-1) ≤ 0) (g x : Int) : D g x ≤ D g (x + 1) := by
  have := N.tri g (x + 1) x
  have := N.le (x + 1) x
  rw [show x - (x + 1) = -1 by omega] at this
  omega
theorem NetD.up {bs : List Bd} {ps : List Int} {D : Int → Int → Int} (N : NetD bs ps D) (h0 : gs bs (-1) ≤ 0) (g x : Int) : ∀ n : Nat, D g x ≤ D g (x + (n : Nat))
  | 0 => by
    rw [show x + ((0 : Nat) : Int) = x by omega]
    exact Int.le_refl _
  | n + 1 => by
    have := N.up h0 g x n
    have := N.step h0 g (x + (n : Nat))
    rw [show x + (n : Nat) + 1 = x + ((n + 1 : Nat) : Int) by omega] at this
    omega
theorem NetD.upI {bs : List Bd} {ps : List Int} {D : Int → Int → Int} (N : NetD bs ps D) (h0 : gs bs (-1) ≤ 0) (g : Int) {x y : Int} (h : x ≤ y) : D g x ≤ D g y := by
  have := N.up h0 g x (y - x).toNat
  rwa [show x + ((y - x).toNat : Int) = y by omega] at this
theorem share_gs {bs : List Bd} (B : Bk bs) {u v : Int} (h : Shr bs u v) (v1 : 1 ≤ v) (u40 : u ≤ 40) {n : Int} (hn : 0 < n) : n ≤ 40 * gs bs n := by
  have u0 := h.1
  have a := h.le B n
  have b : 1 * n ≤ v * n := Int.mul_le_mul_of_nonneg_right v1 (by omega)
  have c : 0 < gs bs n := by
    rcases Int.lt_or_le 0 (gs bs n) with z | z
    · exact z
    · have : u * gs bs n ≤ u * 0 := Int.mul_le_mul_of_nonneg_left z (by omega)
      omega
  have d : u * gs bs n ≤ 40 * gs bs n := Int.mul_le_mul_of_nonneg_right u40 (by omega)
  omega
theorem NetD.far {bs : List Bd} {ps : List Int} {D : Int → Int → Int} (N : NetD bs ps D) (B : Bk bs) {u v : Int} (h : Shr bs u v) (v1 : 1 ≤ v) (u40 : u ≤ 40) (ga : ∀ x : Int, (gs bs x).natAbs ≤ x.natAbs * 20) {M : Nat} (M1 : 1 ≤ M) (pb : ∀ o, o ∈ ps → o.natAbs ≤ M) {g x : Int} (hg : g.natAbs ≤ M)
    (hx : 10000 * (M : Int) ≤ x - g) : (M : Int) ≤ D g x := by
  rcases N.lst g x with e | ⟨o, ho, e⟩
  · have := share_gs B h v1 u40 (n := x - g) (by omega)
    omega
  · have ob := pb o ho
    have a := share_gs B h v1 u40 (n := x - o) (by omega)
    have b := N.neg o g
    have c := N.le o g
    have d := ga (g - o)
    omega
theorem frac_zero {t b : Int} (hb : 0 < b) : t / (Int.gcd t b : Int) = 0 ↔ t = 0 := by
  have g0 := Int.gcd_pos_of_ne_zero_right t (show b ≠ 0 by omega)
  obtain ⟨q, hq⟩ := Int.gcd_dvd_left (a := t) (b := b)
  generalize Int.gcd t b = G at *
  subst hq
  rw [Int.mul_ediv_cancel_left _ (by omega)]
  constructor
  · intro h
    rw [h, Int.mul_zero]
  · intro h
    rcases Int.mul_eq_zero.mp h with h | h
    · omega
    · exact h
theorem pow_lt {k : Nat} (h : (2 : Int) ^ k < 10 ^ 44) : k < 150 := by
  rcases Nat.lt_or_ge k 150 with z | z
  · exact z
  · have : (2 : Int) ^ 150 ≤ 2 ^ k := by
      have := Nat.pow_le_pow_right (show 0 < 2 by decide) z
      exact_mod_cast this
    have : (10 : Int) ^ 44 < 2 ^ 150 := by decide +kernel
    omega
end LW

/-! M50: known sums of even rows, by the law. -/
namespace LW
open PySem PySem.Spec PyProof.Rows L2 EV CT
/-- a known sum of an even row -/
def EvK (u v ph far : Int) (k : Kn) : Prop := (k.1.natAbs : Int) ≤ far + 20 ∧ 1 ≤ k.2.1 ∧ k.2.1 ≤ far + 12 ∧ evS u v ph (k.1 + k.2.1) - evS u v ph k.1 = k.2.2
def invRt (n m p : Nat) (kd : EV.D) (many far u v ph : Int) (ds : List EV.D) (ρ : Frm) (S : Sto) : Prop := ∃ P ks a b c, S = P ++ [some (.lst (List.map tie3 ks))] ∧ PS n (m + 6 * ds.length) P ∧ (ks.length + ds.length : Nat) ≤ many ∧ (∀ k, k ∈ ks → EvK u v ph far k) ∧
  ρ = [some (.cell p), some kd, some (.int many), some (.int far), some (.tup [.int v, .int u]), some (.int ph), some (.cell n), a, b, c]
theorem EvK.near {u v ph far : Int} {ks : List Kn} (f1 : far ≤ 10 ^ 30) (h : ∀ k, k ∈ ks → EvK u v ph far k) : ∀ k, k ∈ ks → k.1.natAbs ≤ 10 ^ 36 ∧ (k.1 + k.2.1).natAbs ≤ 10 ^ 36 ∧ 1 ≤ k.2.1 := fun k hk => by
  obtain ⟨a, b, c, _⟩ := h k hk
  omega
/-- known sums of a row go together -/
theorem EvK.und {bs : List Bd} {u v ph far : Int} {ks : List Kn} (B : Bk bs) (sh : Shr bs u v) (h : ∀ k, k ∈ ks → EvK u v ph far k) : Und bs ks fun a b => evS u v ph b - evS u v ph a := (ev_row sh ph).und B fun k hk => (h k hk).2.2.2
theorem EvK.fit {bs : List Bd} {u v ph far : Int} {ks : List Kn} (B : Bk bs) (sh : Shr bs u v) (h : ∀ k, k ∈ ks → EvK u v ph far k) : untied ks (fun a b => gs bs (b - a)) 0 = none := ((EvK.und B sh h).top 0).1
end LW

/-! M51: short forms. -/
namespace LW
open PySem PySem.Spec PyProof.Rows L2 EV CT
/-- lists of numbers that are the same -/
theorem eq_ints {neg : Bool} {is : List Int} {S : Sto} (h : ∀ i, i ∈ is → Sm i) : gEq neg (.lst (is.map EV.D.int)) (.lst (is.map EV.D.int)) S = some (.ok (!neg), S) := gEq_refl (k := 1) (nums_ints h) (by decide)
theorem eq_pair {a b : Int} {neg : Bool} (sa : Sm a) (sb : Sm b) (S : Sto) : gEq neg (.tup [.int a, .int b]) (.tup [.int a, .int b]) S = some (.ok (!neg), S) := gEq_refl (k := 1) ⟨by decide, sa, sb, trivial⟩ (by decide)
theorem eq_i {z : Int} {neg : Bool} {S : Sto} : gEq neg (.int z) (.int z) S = some (.ok (!neg), S) := by rw [gEq_int]; simp
theorem gx4 {a b c d : EV.D} : gxs [0, 1, 2, 3] [a, b, c, d] = [a, b, c, d] := rfl
theorem eds_sm {bs : List Bd} {ps : List Int} {D : Int → Int → Int} (N : NetD bs ps D) (ga : ∀ x : Int, (gs bs x).natAbs ≤ x.natAbs * 20) {g : Int} {n : Nat} : ∀ i, i ∈ eds D g n → i.natAbs ≤ 20 := fun i hi => by
  obtain ⟨j, _, rfl⟩ := List.mem_map.mp hi
  have t1 := N.tri g (g + (j : Nat)) (g + ((j + 1 : Nat) : Int))
  have t2 := N.tri g (g + ((j + 1 : Nat) : Int)) (g + (j : Nat))
  have l1 := N.le (g + (j : Nat)) (g + ((j + 1 : Nat) : Int))
  have l2 := N.le (g + ((j + 1 : Nat) : Int)) (g + (j : Nat))
  rw [show g + ((j + 1 : Nat) : Int) - (g + (j : Nat)) = 1 by omega] at l1
  rw [show g + (j : Nat) - (g + ((j + 1 : Nat) : Int)) = -1 by omega] at l2
  have g1 := ga 1
  have g2 := ga (-1)
  omega
theorem lds_sm {bs : List Bd} {ps : List Int} {D : Int → Int → Int} (N : NetD bs ps D) (ga : ∀ x : Int, (gs bs x).natAbs ≤ x.natAbs * 20) {g : Int} {n : Nat} : ∀ i, i ∈ lds D g n → i.natAbs ≤ 20 := fun i hi => by
  obtain ⟨j, _, rfl⟩ := List.mem_map.mp hi
  have t1 := N.tri (g + (j : Nat)) (g + ((j + 1 : Nat) : Int)) g
  have t2 := N.tri (g + ((j + 1 : Nat) : Int)) (g + (j : Nat)) g
  have l1 := N.le (g + (j : Nat)) (g + ((j + 1 : Nat) : Int))
  have l2 := N.le (g + ((j + 1 : Nat) : Int)) (g + (j : Nat))
  rw [show g + ((j + 1 : Nat) : Int) - (g + (j : Nat)) = 1 by omega] at l1
  rw [show g + (j : Nat) - (g + ((j + 1 : Nat) : Int)) = -1 by omega] at l2
  have g1 := ga 1
  have g2 := ga (-1)
  omega
end LW

/-! M52: known sums turned, moved, scaled. -/
namespace LW
open PySem PySem.Spec PyProof.Rows L2 EV CT
def flipK (k : Kn) : Kn := (k.1, k.2.1, 0 - k.2.2)
theorem tieD_flip {D D' : Int → Int → Int} {b e t : Int} (h : ∀ x y, D' x y = D y x) (x y : Int) : tieD D' b e (0 - t) x y = tieD D b e t y x := by
  obtain ⟨⟨a1, a2, a3⟩, a4⟩ := tieD_cases D' b e (0 - t) x y
  obtain ⟨⟨b1, b2, b3⟩, b4⟩ := tieD_cases D b e t y x
  have h1 := h x y
  have h2 := h x b
  have h3 := h e y
  have h4 := h x e
  have h5 := h b y
  rcases a4 with a4 | a4 | a4 <;> rcases b4 with b4 | b4 | b4 <;> omega
theorem end_flip : ∀ (ks : List Kn) {D D' : Int → Int → Int} {i : Nat}, (∀ x y, D' x y = D y x) → untied (ks.map flipK) D' i = untied ks D i ∧ ∀ x y, endD (ks.map flipK) D' x y = endD ks D y x
  | [], D, D', i, h => ⟨rfl, h⟩
  | (b, l, t) :: r, D, D', i, h => by
    have ih := end_flip r (D := tieD D b (b + l) t) (D' := tieD D' b (b + l) (0 - t)) (i := i + 1) (tieD_flip h)
    have c1 := h (b + l) b
    have c2 := h b (b + l)
    rw [List.map_cons]
    show (if -D' (b + l) b ≤ 0 - t ∧ 0 - t ≤ D' b (b + l) then untied (r.map flipK) _ (i + 1) else some i) = (if -D (b + l) b ≤ t ∧ t ≤ D b (b + l) then untied r _ (i + 1) else some i) ∧ _
    refine ⟨?_, ih.2⟩
    by_cases z : -D (b + l) b ≤ t ∧ t ≤ D b (b + l)
    · rw [if_pos z, if_pos (by omega)]
      exact ih.1
    · rw [if_neg z, if_neg (by omega)]
theorem end_turn {bs : List Bd} (B : Bk bs) (ks : List Kn) : untied (ks.map flipK) (fun a b => gs (bs.map LW.tb) (b - a)) 0 = untied ks (fun a b => gs bs (b - a)) 0 ∧ ∀ x y, endD (ks.map flipK) (fun a b => gs (bs.map LW.tb) (b - a)) x y = endD ks (fun a b => gs bs (b - a)) y x :=
  end_flip ks fun x y => by
    show gs (bs.map LW.tb) (y - x) = gs bs (x - y)
    rw [gs_tb B, show -(y - x) = x - y by omega]
def moveK (m : Int) (k : Kn) : Kn := (k.1 + m, k.2.1, k.2.2)
theorem end_move {bs : List Bd} (ks : List Kn) (m : Int) : untied (ks.map (moveK m)) (fun a b => gs bs (b - a)) 0 = untied ks (fun a b => gs bs (b - a)) 0 ∧ (untied ks (fun a b => gs bs (b - a)) 0 = none → ∀ x y, endD (ks.map (moveK m)) (fun a b => gs bs (b - a)) (x + m) (y + m) = endD ks (fun a b => gs bs (b - a)) x y) := by
  obtain ⟨a, b⟩ := end_hom (f := fun x => x + m) (w := fun _ _ => 0) (c := 1) (by decide) (fun _ _ _ => by omega) (moveK m) ks (D := fun a b => gs bs (b - a)) (D' := fun a b => gs bs (b - a)) (i := 0)
    (fun k _ => ⟨rfl, by show k.1 + k.2.1 + m = k.1 + m + k.2.1; omega, by show k.2.2 = 1 * k.2.2 + 0; omega⟩) (fun x y => by
      show gs bs (y + m - (x + m)) = 1 * gs bs (y - x) + 0
      rw [show y + m - (x + m) = y - x by omega]
      omega)
  exact ⟨a, fun h x y => by have := b h x y; omega⟩
def scK (c s : Int) (k : Kn) : Kn := (k.1, k.2.1, c * k.2.2 + s * k.2.1)
theorem end_scale {bs : List Bd} (B : Bk bs) (ks : List Kn) {c s : Int} (c0 : 0 < c) : untied (ks.map (scK c s)) (fun a b => gs (bs.map (scB c s)) (b - a)) 0 = untied ks (fun a b => gs bs (b - a)) 0 ∧
    (untied ks (fun a b => gs bs (b - a)) 0 = none → ∀ x y, endD (ks.map (scK c s)) (fun a b => gs (bs.map (scB c s)) (b - a)) x y = c * endD ks (fun a b => gs bs (b - a)) x y + s * (y - x)) :=
  end_hom (f := fun x => x) (w := fun x y => s * (y - x)) c0 (fun x y z => by
    rw [← Int.mul_add, show y - x + (z - y) = z - x by omega]) (scK c s) ks (D := fun a b => gs bs (b - a)) (D' := fun a b => gs (bs.map (scB c s)) (b - a)) (i := 0)
    (fun k _ => ⟨rfl, rfl, by show c * k.2.2 + s * k.2.1 = c * k.2.2 + s * (k.1 + k.2.1 - k.1); rw [show k.1 + k.2.1 - k.1 = k.2.1 by omega]⟩) (fun x y => by
      show gs (bs.map (scB c s)) (y - x) = c * gs bs (y - x) + s * (y - x)
      rw [gs_sc B c0, Int.mul_comm (y - x)])
theorem NetD.abs {bs : List Bd} {ps : List Int} {D : Int → Int → Int} (N : NetD bs ps D) (g : ∀ x : Int, (gs bs x).natAbs ≤ x.natAbs * 20) {a b : Int} (ha : a.natAbs ≤ 10 ^ 36) (hb : b.natAbs ≤ 10 ^ 36) : (D a b).natAbs ≤ 10 ^ 38 := by
  have h1 := N.le a b
  have h2 := N.le b a
  have h3 := N.neg a b
  have g1 := g (b - a)
  have g2 := g (a - b)
  omega
theorem lds_flip {D D' : Int → Int → Int} (h : ∀ x y, D' x y = D y x) (g : Int) (n : Nat) : lds D' g n = (eds D g n).map (fun i => 0 - i) := by
  unfold lds eds
  rw [List.map_map]
  refine List.map_congr_left fun i _ => ?_
  show -D' _ g - -D' _ g = 0 - (D g _ - D g _)
  rw [h, h]
  omega
theorem eds_flip {D D' : Int → Int → Int} (h : ∀ x y, D' x y = D y x) (g : Int) (n : Nat) : eds D' g n = (lds D g n).map (fun i => 0 - i) := by
  unfold lds eds
  rw [List.map_map]
  refine List.map_congr_left fun i _ => ?_
  show D' g _ - D' g _ = 0 - (-D _ g - -D _ g)
  rw [h, h]
  omega
theorem eds_move {D D' : Int → Int → Int} {m : Int} (h : ∀ x y, D' (x + m) (y + m) = D x y) (g : Int) (n : Nat) : eds D' (g + m) n = eds D g n := by
  unfold eds
  refine List.map_congr_left fun i _ => ?_
  rw [show g + m + ((i + 1 : Nat) : Int) = g + ((i + 1 : Nat) : Int) + m by omega, show g + m + (i : Int) = g + (i : Int) + m by omega, h, h]
/-- known sums as a list -/
theorem lcE_ties {gs : EV.D → Frm → Sto → Option Frm} {ts : ET} {es : EX} {ρ : Frm} {S : Sto} {g : Sto → Prop} (f : Kn → EV.D) (ks : List Kn) (h : ks.length ≤ 1000) (hg : g S)
    (hs : ∀ k, k ∈ ks → ∃ ρ1, gs (tie3 k) ρ S = some ρ1 ∧ ts ρ1 S = some (.ok true, S) ∧ es ρ1 S = some (.ok (f k), S)) : lcE gs ts es ρ (ks.map tie3, g) S = some (.ok (ks.map f), S) := lcE_map tie3 f ks (by omega) hg hs
theorem lcE_ints {gs : EV.D → Frm → Sto → Option Frm} {ts : ET} {es : EX} {ρ : Frm} {S : Sto} {g : Sto → Prop} (f : Int → EV.D) (is : List Int) (h : is.length ≤ 1000) (hg : g S)
    (hs : ∀ k, k ∈ is → ∃ ρ1, gs (.int k) ρ S = some ρ1 ∧ ts ρ1 S = some (.ok true, S) ∧ es ρ1 S = some (.ok (f k), S)) : lcE gs ts es ρ (is.map EV.D.int, g) S = some (.ok (is.map f), S) := lcE_map EV.D.int f is (by omega) hg hs
theorem neg_sm {is : List Int} {M : Nat} (h : ∀ i, i ∈ is → i.natAbs ≤ M) : ∀ i, i ∈ is.map (fun i => 0 - i) → i.natAbs ≤ M := fun i hi => by
  obtain ⟨j, hj, rfl⟩ := List.mem_map.mp hi
  have := h j hj
  omega
end LW

/-! M53: known sums, far away. No program in sight. -/
namespace LW
open CT
theorem NetD.flip {bs : List Bd} {ps : List Int} {D : Int → Int → Int} (B : Bk bs) (N : NetD bs ps D) : NetD (bs.map tb) ps fun a b => D b a where
  self := N.self
  tri := fun a b c => by
    have := N.tri c b a
    omega
  le := fun a b => by
    rw [gs_tb B, show -(b - a) = a - b by omega]
    exact N.le b a
  fst := fun a b => by
    rcases N.lst b a with h | ⟨o, ho, h⟩
    · exact .inl (by rw [gs_tb B, show -(b - a) = a - b by omega]; exact h)
    · exact .inr ⟨o, ho, by rw [gs_tb B, show -(o - a) = a - o by omega, h, Int.add_comm]⟩
  lst := fun a b => by
    rcases N.fst b a with h | ⟨o, ho, h⟩
    · exact .inl (by rw [gs_tb B, show -(b - a) = a - b by omega]; exact h)
    · exact .inr ⟨o, ho, by rw [gs_tb B, show -(b - o) = o - b by omega, h, Int.add_comm]⟩
theorem far_step {bs : List Bd} {ps : List Int} {D : Int → Int → Int} (B : Bk bs) (N : NetD bs ps D) {U : Bd} (hU : U ∈ bs) (h : Shr bs U.w U.m) {W g x : Int} (hW : ∀ b, b ∈ bs → b.w ≤ W) (h1 : U.w * W ≤ x - g) (h2 : ∀ o, o ∈ ps → U.w * W ≤ x - o) : D g (x + U.w) = D g x + U.m := by
  have p := fun {n : Int} (hn : U.w * W ≤ n) => gs_period B hU h hW hn
  have a1 := N.le g x
  have a2 := N.le g (x + U.w)
  have p1 := p h1
  rw [show x + U.w - g = x - g + U.w by omega, p1] at a2
  have up : ∀ o, o ∈ ps → D g x ≤ D g o + gs bs (x - o) ∧ D g (x + U.w) ≤ D g o + (gs bs (x - o) + U.m) := fun o ho => by
    have t1 := N.tri g o x
    have l1 := N.le o x
    have t2 := N.tri g o (x + U.w)
    have l2 := N.le o (x + U.w)
    rw [show x + U.w - o = x - o + U.w by omega, p (h2 o ho)] at l2
    omega
  have b1 := N.lst g x
  have b2 := N.lst g (x + U.w)
  rw [show x + U.w - g = x - g + U.w by omega, p1] at b2
  rcases b1 with b1 | ⟨o, ho, b1⟩ <;> rcases b2 with b2 | ⟨o', ho', b2⟩
  · omega
  · have := up o' ho'
    rw [show x + U.w - o' = x - o' + U.w by omega, p (h2 o' ho')] at b2
    omega
  · have := up o ho
    omega
  · have := up o ho
    have := up o' ho'
    rw [show x + U.w - o' = x - o' + U.w by omega, p (h2 o' ho')] at b2
    omega
theorem room_up {lo hi : Int} {rs : List Bd} {ps : List Int} {D : Int → Int → Int} {U : Bd} {g far : Int} (B : Bk (⟨1, lo, hi⟩ :: rs)) (N : NetD (⟨1, lo, hi⟩ :: rs) ps D) (hU : U ∈ (⟨1, lo, hi⟩ : Bd) :: rs) (sU : Shr (⟨1, lo, hi⟩ :: rs) U.w U.m) (w8 : U.w ≤ 8)
    (pb : ∀ o, o ∈ ps → -132 ≤ g - o ∧ g - o ≤ 132) (f0 : 0 ≤ far) : -(132 * (U.w * (hi - lo))) ≤ D g (g + far) * U.w - far * U.m ∧ D g (g + far) * U.w - far * U.m ≤ 8 * (U.w * (hi - lo)) := by
  have w0 := sU.1
  obtain ⟨c1, c2⟩ : lo * U.w ≤ U.m ∧ U.m ≤ hi * U.w := by
    obtain ⟨a, b⟩ := sU.2 _ (List.mem_cons_self ..)
    have a : lo * U.w ≤ U.m * 1 := a
    have b : U.m * 1 ≤ hi * U.w := b
    omega
  have k0 : 0 ≤ U.w * (hi - lo) := by
    rw [Int.mul_sub, Int.mul_comm U.w, Int.mul_comm U.w]
    omega
  have line := fun n => B.way (way_line (lo := lo) (hi := hi) (rs := rs) n)
  have le := N.le g (g + far)
  rw [show g + far - g = far by omega] at le
  have sl := fun n => sU.le B n
  generalize hbs : (⟨1, lo, hi⟩ : Bd) :: rs = bs at *
  constructor
  · rcases N.lst g (g + far) with e | ⟨o, ho, e⟩
    · rw [show g + far - g = far by omega] at e
      have := sl far
      rw [e, Int.mul_comm (gs bs far), Int.mul_comm far]
      omega
    · have pbo := pb o ho
      have ng := N.neg o g
      have l2 := N.le o g
      have s2 := sl (g + far - o)
      have ln := line (g - o)
      generalize hd : g - o = d at *
      rw [show g + far - o = far + d by omega] at s2 e
      have e' : D g (g + far) * U.w = D g o * U.w + U.w * gs bs (far + d) := by rw [e, Int.add_mul, Int.mul_comm (gs bs _)]
      have h1 : -(gs bs d) * U.w ≤ D g o * U.w := Int.mul_le_mul_of_nonneg_right (by omega) (by omega)
      rw [Int.neg_mul] at h1
      rw [Int.mul_add, Int.mul_comm U.m far] at s2
      rw [e']
      by_cases z : 0 ≤ d
      · rw [if_pos z] at ln
        have h2 : gs bs d * U.w ≤ d * hi * U.w := Int.mul_le_mul_of_nonneg_right ln (by omega)
        have h3 : lo * U.w * d ≤ U.m * d := Int.mul_le_mul_of_nonneg_right c1 z
        have h4 : d * (U.w * (hi - lo)) ≤ 132 * (U.w * (hi - lo)) := Int.mul_le_mul_of_nonneg_right pbo.2 k0
        have h5 : d * (U.w * (hi - lo)) = d * hi * U.w - lo * U.w * d := by
          rw [Int.mul_sub, Int.mul_sub, Int.mul_assoc, Int.mul_comm hi, Int.mul_comm (lo * U.w) d, Int.mul_comm lo]
        omega
      · rw [if_neg z] at ln
        have h2 : gs bs d * U.w ≤ d * lo * U.w := Int.mul_le_mul_of_nonneg_right ln (by omega)
        have h3 : U.m * (-d) ≤ hi * U.w * (-d) := Int.mul_le_mul_of_nonneg_right c2 (by omega)
        rw [Int.mul_neg, Int.mul_neg] at h3
        have h4 : -d * (U.w * (hi - lo)) ≤ 132 * (U.w * (hi - lo)) := Int.mul_le_mul_of_nonneg_right (by omega) k0
        have h5 : -d * (U.w * (hi - lo)) = d * lo * U.w - hi * U.w * d := by
          rw [Int.neg_mul, Int.mul_sub, Int.mul_sub, Int.mul_assoc, Int.mul_comm lo, Int.mul_comm (hi * U.w) d, Int.mul_comm hi]
          omega
        omega
  · have q0 : 0 ≤ far / U.w := Int.ediv_nonneg f0 (by omega)
    have r0 := Int.emod_nonneg far (show U.w ≠ 0 by omega)
    have r1 := Int.emod_lt_of_pos far w0
    have qr := Int.mul_ediv_add_emod far U.w
    have ex := B.exact_up hU sU q0
    have ad := B.add (far / U.w * U.w) (far % U.w)
    generalize far / U.w = k at *
    generalize far % U.w = r at *
    rw [Int.mul_comm U.w k] at qr
    rw [qr, ex] at ad
    have ln := line r
    rw [if_pos r0] at ln
    have h1 : D g (g + far) * U.w ≤ (k * U.m + r * hi) * U.w := Int.mul_le_mul_of_nonneg_right (by omega) (by omega)
    have h2 : far * U.m = k * U.w * U.m + r * U.m := by rw [← qr, Int.add_mul]
    have h3 : (k * U.m + r * hi) * U.w = k * U.w * U.m + r * hi * U.w := by rw [Int.add_mul, Int.mul_assoc k, Int.mul_comm U.m, ← Int.mul_assoc k]
    have h4 : r * (lo * U.w) ≤ r * U.m := Int.mul_le_mul_of_nonneg_left c1 r0
    have h5 : r * (U.w * (hi - lo)) ≤ 8 * (U.w * (hi - lo)) := Int.mul_le_mul_of_nonneg_right (by omega) k0
    have h6 : r * (U.w * (hi - lo)) = r * hi * U.w - r * (lo * U.w) := by
      rw [Int.mul_sub, Int.mul_sub, Int.mul_assoc r hi, Int.mul_comm hi, Int.mul_comm lo]
    omega
end LW

/-! M54: more short forms. -/
namespace LW
open PySem PySem.Spec PyProof.Rows L2 EV CT
def revI (d : EV.D) (S : Sto) : Res (List EV.D) := match d with
  | .tup _ => none
  | d => match seqD S d with
    | some xs => some (.ok xs.reverse, S)
    | none => none
theorem u_revL {f : EX} {ρ : Frm} {S : Sto} : xRevL f ρ S = bnd (f ρ S) revI := rfl
theorem rev_lst {xs : List EV.D} {S : Sto} : revI (.lst xs) S = some (.ok xs.reverse, S) := rfl
theorem Und.zero {bs : List Bd} (B : Bk bs) {ks : List Kn} {E : Int → Int → Int} (h : Und bs ks E) (a : Int) : E a a ≤ 0 := by
  have := h.le a a
  rw [Int.sub_self, B.zero] at this
  exact this
theorem day_lim {lo hi : Int} {rs : List Bd} {ps : List Int} {D : Int → Int → Int} (B : Bk (⟨1, lo, hi⟩ :: rs)) (N : NetD (⟨1, lo, hi⟩ :: rs) ps D) (g x : Int) : lo ≤ D g (x + 1) - D g x ∧ D g (x + 1) - D g x ≤ hi := by
  have t1 := N.tri g x (x + 1)
  have t2 := N.tri g (x + 1) x
  have l1 := N.le x (x + 1)
  have l2 := N.le (x + 1) x
  rw [show x + 1 - x = 1 by omega] at l1
  rw [show x - (x + 1) = -1 by omega] at l2
  have g1 : gs (⟨1, lo, hi⟩ :: rs) 1 ≤ hi := B.up (List.mem_cons_self ..)
  have g2 : gs (⟨1, lo, hi⟩ :: rs) (-1) ≤ -lo := B.dn (List.mem_cons_self ..)
  omega
theorem cut_from {α : Type} {xs : List α} {k : Nat} (hk : k ≤ xs.length) : cutL xs (some (k : Int)) none = xs.drop k := by
  unfold cutL
  rw [HT.sIx_nat, HT.sIx_none, Nat.min_eq_left hk]
  exact List.take_of_length_le (by rw [List.length_drop]; omega)
/-- fewer known sums make less sure -/
theorem end_less {bs : List Bd} (B : Bk bs) {ks ks' : List Kn} (h : untied ks (fun a b => gs bs (b - a)) 0 = none) (m : ∀ k, k ∈ ks' → k ∈ ks) : untied ks' (fun a b => gs bs (b - a)) 0 = none ∧ ∀ x y, endD ks (fun a b => gs bs (b - a)) x y ≤ endD ks' (fun a b => gs bs (b - a)) x y :=
  end_sub B h fun E U k hk => U.tie k (m k hk)
end LW

/-! M55: lists that stand: turned about, turned, scaled, parts of them. No program in sight. -/
namespace LW
open CT
theorem sum_aff (c s : Int) : ∀ is : List Int, (is.map fun x => c * x + s).sum = c * is.sum + is.length * s
  | [] => by simp
  | x :: is => by
    rw [List.map_cons, List.sum_cons, List.sum_cons, sum_aff c s is, List.length_cons, Int.mul_add, show ((is.length + 1 : Nat) : Int) = is.length + 1 by omega, Int.add_mul]
    omega
theorem pre_aff (c s : Int) (is : List Int) {i : Nat} (h : i ≤ is.length) : pre (is.map fun x => c * x + s) i = c * pre is i + i * s := by
  unfold pre
  rw [← List.map_take, sum_aff, List.length_take, Nat.min_eq_left h]
theorem fits_rev {bs : List Bd} {is : List Int} : Fits bs is.reverse ↔ Fits bs is := ⟨fun h => by
  have := h.rev
  rwa [List.reverse_reverse] at this, Fits.rev⟩
theorem Fits.scale {bs : List Bd} (B : Bk bs) {is : List Int} {c s : Int} (c0 : 0 < c) (h : Fits bs is) : Fits (bs.map (scB c s)) (is.map fun x => c * x + s) := fun i j hi hj => by
  rw [List.length_map] at hi hj
  rw [pre_aff c s is hi, pre_aff c s is hj, gs_sc B c0, Int.sub_mul]
  have := Int.mul_le_mul_of_nonneg_left (h i j hi hj) (show 0 ≤ c by omega)
  rw [Int.mul_sub] at this
  omega
theorem fits_scale {bs : List Bd} (B : Bk bs) {is : List Int} {c s : Int} (c0 : 0 < c) : Fits (bs.map (scB c s)) (is.map fun x => c * x + s) ↔ Fits bs is := ⟨fun h i j hi hj => by
  have q := h i j (by rw [List.length_map]; exact hi) (by rw [List.length_map]; exact hj)
  rw [pre_aff c s is hi, pre_aff c s is hj, gs_sc B c0, Int.sub_mul] at q
  have : c * (pre is j - pre is i) ≤ c * gs bs (j - i) := by
    rw [Int.mul_sub]
    omega
  exact Int.le_of_mul_le_mul_left this c0, Fits.scale B c0⟩
theorem pre_neg (is : List Int) {i : Nat} (h : i ≤ is.length) : pre (is.map fun x => 0 - x) i = -pre is i := by
  have e : (is.map fun x => 0 - x) = is.map fun x => (-1) * x + 0 := List.map_congr_left fun x _ => by omega
  rw [e, pre_aff (-1) 0 is h]
  omega
theorem fits_turn {bs : List Bd} (B : Bk bs) {is : List Int} : Fits (bs.map tb) (is.map fun x => 0 - x) ↔ Fits bs is := by
  constructor
  · intro h i j hi hj
    have q := h j i (by rw [List.length_map]; exact hj) (by rw [List.length_map]; exact hi)
    rw [pre_neg is hi, pre_neg is hj, gs_tb B, show -((i : Int) - j) = j - i by omega] at q
    omega
  · intro h i j hi hj
    rw [List.length_map] at hi hj
    rw [pre_neg is hi, pre_neg is hj, gs_tb B, show -((j : Int) - i) = i - j by omega]
    have := h j i hj hi
    omega
theorem way_sub {st st' : List Mv} (h : ∀ s, s ∈ st → s ∈ st') {n c : Int} (w : Way st n c) : Way st' n c := by
  have := way_map (st := st) (st' := st'.map fun s => (-s.1, s.2)) (fun s hs => List.mem_map.mpr ⟨s, h s hs, rfl⟩) w
  have := way_map (st := st'.map fun s => (-s.1, s.2)) (st' := st') (fun s hs => by
    obtain ⟨t, ht, rfl⟩ := List.mem_map.mp hs
    show (- -t.1, t.2) ∈ st'
    rw [Int.neg_neg]
    exact ht) this
  rwa [Int.neg_neg] at this
theorem gs_ext {as bs : List Bd} (A : Bk as) (h : ∀ b, b ∈ as ↔ b ∈ bs) (n : Int) : gs bs n = gs as n := by
  have m : ∀ s, s ∈ stB as ↔ s ∈ stB bs := fun s => by
    rw [mem_stB, mem_stB]
    exact ⟨fun ⟨b, hb, e⟩ => ⟨b, (h b).mp hb, e⟩, fun ⟨b, hb, e⟩ => ⟨b, (h b).mpr hb, e⟩⟩
  have a := A.gs n
  exact gs_of ⟨way_sub (fun s hs => (m s).mp hs) a.1, fun c hc => a.2 c (way_sub (fun s hs => (m s).mpr hs) hc)⟩
theorem fits_ext {as bs : List Bd} (h : ∀ n, gs bs n = gs as n) {is : List Int} : Fits bs is ↔ Fits as is := by
  unfold Fits
  simp only [h]
theorem nbL_ext {as bs : List Bd} (h : ∀ n, gs bs n = gs as n) {is : List Int} : ∀ k, nbL bs is k = nbL as is k
  | 0 => by unfold nbL; rw [h]
  | k + 1 => by unfold nbL; rw [h, nbL_ext h k]
theorem nbH_ext {as bs : List Bd} (h : ∀ n, gs bs n = gs as n) {is : List Int} : ∀ k, nbH bs is k = nbH as is k
  | 0 => by unfold nbH; rw [h]
  | k + 1 => by unfold nbH; rw [h, nbH_ext h k]
theorem Fits.lim {bs : List Bd} (B : Bk bs) {is : List Int} (h : Fits bs is) : -gs bs (-1) ≤ nbL bs is is.length ∧ nbL bs is is.length ≤ nbH bs is is.length ∧ nbH bs is is.length ≤ gs bs 1 := by
  refine ⟨?_, h.next B, ?_⟩
  · have := (nbL_le (bs := bs) (is := is) (v := nbL bs is is.length) (k := is.length)).mp (Int.le_refl _) 0 (Nat.zero_le _)
    rw [lastS_zero] at this
    simpa using this
  · have := (nbH_ge (bs := bs) (is := is) (v := nbH bs is is.length) (k := is.length)).mp (Int.le_refl _) 0 (Nat.zero_le _)
    rw [lastS_zero] at this
    simpa using this
end LW

/-! M56: rules that are left in books turned and scaled. No program in sight. -/
namespace LW
open CT
theorem Bk.sub {lo hi : Int} {rs r : List Bd} (B : Bk (⟨1, lo, hi⟩ :: rs)) (h : ∀ b, b ∈ r → b ∈ rs) : Bk (⟨1, lo, hi⟩ :: r) := by
  have m : ∀ b, b ∈ (⟨1, lo, hi⟩ : Bd) :: r → b ∈ (⟨1, lo, hi⟩ : Bd) :: rs := fun b hb => by
    rcases List.mem_cons.mp hb with z | z
    · exact List.mem_cons.mpr (.inl z)
    · exact List.mem_cons.mpr (.inr (h b z))
  exact ⟨fun b hb => B.w0 b (m b hb), fun a ha b hb => B.no a (m a ha) b (m b hb), ⟨_, _, _, rfl⟩⟩
theorem keeps_tb {bs : List Bd} (B : Bk bs) (o : Bd) : keepsB (bs.map tb) (tb o) = keepsB bs o := by
  unfold keepsB
  show (decide (-o.m ≤ -gs (bs.map tb) (-o.w)) && decide (gs (bs.map tb) o.w ≤ -o.l)) = _
  rw [gs_tb B, gs_tb B, Int.neg_neg, Bool.and_comm]
  congr 1
  · exact decide_eq_decide.mpr (by omega)
  · exact decide_eq_decide.mpr (by omega)
theorem keeps_sc {bs : List Bd} (B : Bk bs) {c s : Int} (c0 : 0 < c) (o : Bd) : keepsB (bs.map (scB c s)) (scB c s o) = keepsB bs o := by
  unfold keepsB
  show (decide (c * o.l + o.w * s ≤ -gs (bs.map (scB c s)) (-o.w)) && decide (gs (bs.map (scB c s)) o.w ≤ c * o.m + o.w * s)) = _
  rw [gs_sc B c0, gs_sc B c0]
  have m : ∀ u v : Int, u ≤ v ↔ c * u ≤ c * v := fun u v => ⟨fun z => Int.mul_le_mul_of_nonneg_left z (by omega), fun z => Int.le_of_mul_le_mul_left z c0⟩
  congr 1
  · refine decide_eq_decide.mpr ?_
    rw [m o.l, Int.mul_neg, Int.neg_mul]
    omega
  · refine decide_eq_decide.mpr ?_
    rw [m _ o.m]
    omega
theorem eraseIdx_map' {f : Bd → Bd} : ∀ (rs : List Bd) (i : Nat), (rs.map f).eraseIdx i = (rs.eraseIdx i).map f
  | [], _ => rfl
  | _ :: _, 0 => rfl
  | b :: rs, i + 1 => by
    rw [List.map_cons, List.eraseIdx_cons_succ, List.eraseIdx_cons_succ, List.map_cons, eraseIdx_map' rs i]
theorem left_map {f : Bd → Bd} {b0 : Bd} : ∀ (i : Nat) (rs : List Bd), (∀ r : List Bd, (∀ b, b ∈ r → b ∈ rs) → ∀ o, o ∈ rs → keepsB ((b0 :: r).map f) (f o) = keepsB (b0 :: r) o) → leftL (f b0) i (rs.map f) = (leftL b0 i rs).map f
  | 0, rs, _ => by
    unfold leftL
    rfl
  | i + 1, rs, h => by
    unfold leftL
    by_cases c : i < rs.length
    · rw [dif_pos c, dif_pos (by rw [List.length_map]; exact c), eraseIdx_map']
      have k := h (rs.eraseIdx i) (fun b hb => List.mem_of_mem_eraseIdx hb) rs[i] (List.getElem_mem c)
      rw [List.map_cons] at k
      rw [List.getElem_map, k]
      by_cases z : keepsB (b0 :: rs.eraseIdx i) rs[i] = true
      · rw [if_pos z, if_pos z]
        exact left_map i _ fun r hr o ho => h r (fun b hb => List.mem_of_mem_eraseIdx (hr b hb)) o (List.mem_of_mem_eraseIdx ho)
      · rw [if_neg z, if_neg z]
        exact left_map i _ h
    · rw [dif_neg c, dif_neg (by rw [List.length_map]; exact c)]
      exact left_map i _ h
theorem left_sub {b0 : Bd} : ∀ (i : Nat) (rs : List Bd), (∀ b, b ∈ leftL b0 i rs → b ∈ rs) ∧ (leftL b0 i rs).length ≤ rs.length
  | 0, rs => by
    unfold leftL
    exact ⟨fun _ h => h, Nat.le_refl _⟩
  | i + 1, rs => by
    unfold leftL
    by_cases c : i < rs.length
    · rw [dif_pos c]
      by_cases z : keepsB (b0 :: rs.eraseIdx i) rs[i] = true
      · rw [if_pos z]
        obtain ⟨a, b⟩ := left_sub (b0 := b0) i (rs.eraseIdx i)
        have := List.length_eraseIdx_le rs i
        exact ⟨fun b hb => List.mem_of_mem_eraseIdx (a b hb), by omega⟩
      · rw [if_neg z]
        exact left_sub i rs
    · rw [dif_neg c]
      exact left_sub i rs
/-- shares of a turned book -/
theorem stepL_tb (a b : Bd) : stepL (tb a) (tb b) = tb (stepU a b) := by
  unfold stepL stepU
  show (if -b.m * a.w > -a.m * b.w then tb b else tb a) = _
  rw [Int.neg_mul, Int.neg_mul]
  by_cases c : b.m * a.w < a.m * b.w
  · rw [if_pos c, if_pos (by omega)]
  · rw [if_neg c, if_neg (by omega)]
theorem stepU_tb (a b : Bd) : stepU (tb a) (tb b) = tb (stepL a b) := by
  unfold stepL stepU
  show (if -b.l * a.w < -a.l * b.w then tb b else tb a) = _
  rw [Int.neg_mul, Int.neg_mul]
  by_cases c : b.l * a.w > a.l * b.w
  · rw [if_pos c, if_pos (by omega)]
  · rw [if_neg c, if_neg (by omega)]
theorem foldL_tb : ∀ (rs : List Bd) (a : Bd), (rs.map tb).foldl stepL (tb a) = tb (rs.foldl stepU a)
  | [], _ => rfl
  | b :: rs, a => by
    rw [List.map_cons, List.foldl_cons, List.foldl_cons, stepL_tb, foldL_tb rs]
theorem foldU_tb : ∀ (rs : List Bd) (a : Bd), (rs.map tb).foldl stepU (tb a) = tb (rs.foldl stepL a)
  | [], _ => rfl
  | b :: rs, a => by
    rw [List.map_cons, List.foldl_cons, List.foldl_cons, stepU_tb, foldU_tb rs]
theorem frac_neg {t b : Int} (hb : 0 < b) : -t / (Int.gcd (-t) b : Int) = -(t / (Int.gcd t b : Int)) ∧ b / (Int.gcd (-t) b : Int) = b / (Int.gcd t b : Int) := by
  rw [Int.neg_gcd]
  refine ⟨?_, rfl⟩
  have g0 := Int.gcd_pos_of_ne_zero_right t (show b ≠ 0 by omega)
  obtain ⟨q, hq⟩ := Int.gcd_dvd_left (a := t) (b := b)
  generalize Int.gcd t b = G at *
  subst hq
  rw [Int.mul_ediv_cancel_left _ (by omega), ← Int.mul_neg, Int.mul_ediv_cancel_left _ (by omega)]
end LW

/-! M57: known sums of even rows, beside other cells. -/
namespace LW
open PySem PySem.Spec PyProof.Rows L2 EV CT
def invRtE (n m p c : Nat) (E : Sto) (kd : EV.D) (many far u v ph : Int) (ds : List EV.D) (ρ : Frm) (S : Sto) : Prop := ∃ P ks a b d, S = P ++ (E ++ [some (.lst (List.map tie3 ks))]) ∧ PS n (m + 6 * ds.length) P ∧ (ks.length + ds.length : Nat) ≤ many ∧ (∀ k, k ∈ ks → EvK u v ph far k) ∧
  ρ = [some (.cell p), some kd, some (.int many), some (.int far), some (.tup [.int v, .int u]), some (.int ph), some (.cell c), a, b, d]
theorem at_E {P E : Sto} {n : Nat} {x : Option Cell} (hn : P.length = n) : (P ++ (E ++ [x]))[n + E.length]? = some x := by
  rw [← List.append_assoc, List.getElem?_append_right (by rw [List.length_append, hn]; omega), List.length_append, hn, Nat.sub_self]
  rfl
theorem set_E {P E : Sto} {n : Nat} {x y : Option Cell} (hn : P.length = n) : (P ++ (E ++ [x])).set (n + E.length) y = P ++ (E ++ [y]) := by
  rw [← List.append_assoc, List.set_append_right _ _ (by rw [List.length_append, hn]; omega), List.length_append, hn, Nat.sub_self, List.append_assoc]
  rfl
end LW

/-! M58: known sums of single days. No program in sight. -/
namespace LW
open CT
/-- single days as known sums -/
def sing (b : Int) (is : List Int) : List Kn := is.zipIdx.map fun p => (b + (p.2 : Nat), 1, p.1)
theorem sing_len {b : Int} {is : List Int} : (sing b is).length = is.length := by unfold sing; rw [List.length_map, List.length_zipIdx]
theorem sing_snoc (b : Int) (is : List Int) (v : Int) : sing b (is ++ [v]) = sing b is ++ [(b + (is.length : Nat), 1, v)] := by
  unfold sing
  rw [List.zipIdx_append, List.map_append, List.zipIdx_singleton, Nat.zero_add]
  rfl
theorem sing_mem {b : Int} {is : List Int} {k : Kn} : k ∈ sing b is ↔ ∃ (i : Nat) (h : i < is.length), k = (b + (i : Nat), 1, is[i]) := by
  unfold sing
  rw [List.mem_map]
  constructor
  · rintro ⟨⟨x, i⟩, hp, rfl⟩
    obtain ⟨hi, e⟩ := List.getElem?_eq_some_iff.mp (List.mk_mem_zipIdx_iff_getElem?.mp hp)
    exact ⟨i, hi, by rw [e]⟩
  · rintro ⟨i, hi, rfl⟩
    exact ⟨(is[i], i), List.mk_mem_zipIdx_iff_getElem?.mpr (List.getElem?_eq_getElem hi), rfl⟩
/-- what is known between these days -/
theorem sing_in {bs : List Bd} {b : Int} {is : List Int} {E : Int → Int → Int} (U : Und bs (sing b is) E) (s0 : E b b = 0) {i j : Nat} (hi : i ≤ is.length) (hj : j ≤ is.length) : E (b + (i : Nat)) (b + (j : Nat)) = pre is j - pre is i := by
  have up : ∀ j : Nat, j ≤ is.length → E b (b + (j : Nat)) ≤ pre is j ∧ E (b + (j : Nat)) b ≤ -pre is j := by
    intro j
    induction j with
    | zero =>
      intro _
      rw [pre_zero, show b + ((0 : Nat) : Int) = b by omega, s0]
      omega
    | succ j ih =>
      intro hj
      obtain ⟨h1, h2⟩ := ih (by omega)
      have q := U.tie _ (sing_mem.mpr ⟨j, by omega, rfl⟩)
      dsimp only at q
      rw [show b + (j : Int) + 1 = b + ((j + 1 : Nat) : Int) by omega] at q
      have t1 := U.tri b (b + (j : Nat)) (b + ((j + 1 : Nat) : Int))
      have t2 := U.tri (b + ((j + 1 : Nat) : Int)) (b + (j : Nat)) b
      rw [pre_succ (by omega)]
      omega
  have a1 := up i hi
  have a2 := up j hj
  have t1 := U.tri (b + (i : Nat)) b (b + (j : Nat))
  have t2 := U.tri (b + (j : Nat)) b (b + (i : Nat))
  have n := U.neg (b + (i : Nat)) (b + (j : Nat))
  omega
theorem addE_mem {ps : List Int} {b l o : Int} (h : o ∈ addE ps b l) : o ∈ ps ∨ o = b ∨ o = b + l := by
  have key : ∀ {ps : List Int} {p o : Int}, o ∈ addP ps p → o ∈ ps ∨ o = p := fun {ps p o} h => by
    unfold addP at h
    split at h
    · exact .inl h
    · rcases List.mem_append.mp h with h | h
      · exact .inl h
      · exact .inr (List.mem_singleton.mp h)
  rcases key h with h | h
  · rcases key h with h | h
    · exact .inl h
    · exact .inr (.inl h)
  · exact .inr (.inr h)
theorem endP_mem : ∀ {ks : List Kn} {ps : List Int} {o : Int}, o ∈ endP ks ps → o ∈ ps ∨ ∃ k, k ∈ ks ∧ (o = k.1 ∨ o = k.1 + k.2.1)
  | [], _, _, h => .inl h
  | (b, l, t) :: r, ps, o, h => by
    rcases endP_mem (ks := r) (ps := addE ps b l) h with h | ⟨k, hk, e⟩
    · rcases addE_mem h with h | h
      · exact .inl h
      · exact .inr ⟨_, List.mem_cons_self .., h⟩
    · exact .inr ⟨k, List.mem_cons_of_mem _ hk, e⟩
theorem sing_at {b : Int} {is : List Int} {o : Int} (h : o ∈ endP (sing b is) []) : ∃ i : Nat, i ≤ is.length ∧ o = b + (i : Nat) := by
  rcases endP_mem h with h | ⟨k, hk, e⟩
  · exact (List.not_mem_nil h).elim
  · obtain ⟨i, hi, rfl⟩ := sing_mem.mp hk
    rcases e with rfl | rfl
    · exact ⟨i, by omega, rfl⟩
    · exact ⟨i + 1, by omega, by dsimp only; omega⟩
/-- what is sure of the next day -/
theorem sing_next {bs : List Bd} (B : Bk bs) {b : Int} {is : List Int} (h : untied (sing b is) (fun a b => gs bs (b - a)) 0 = none) :
    endD (sing b is) (fun a b => gs bs (b - a)) (b + (is.length : Nat)) (b + (is.length : Nat) + 1) = nbH bs is is.length ∧ -endD (sing b is) (fun a b => gs bs (b - a)) (b + (is.length : Nat) + 1) (b + (is.length : Nat)) = nbL bs is is.length := by
  obtain ⟨N, U⟩ := end_is B h
  have M := fun {o : Int} => sing_at (b := b) (is := is) (o := o)
  generalize (endD (sing b is) fun a b => gs bs (b - a)) = D at *
  have I := fun {i j : Nat} => sing_in U (N.self b) (i := i) (j := j)
  have pl : pre is is.length = is.sum := pre_all is (Nat.le_refl _)
  constructor
  · refine Int.le_antisymm (nbH_ge.mpr fun j hj => ?_) ?_
    · have t := N.tri (b + (is.length : Nat)) (b + ((is.length - j : Nat) : Int)) (b + (is.length : Nat) + 1)
      have e := I (i := is.length) (j := is.length - j) (Nat.le_refl _) (by omega)
      have l := N.le (b + ((is.length - j : Nat) : Int)) (b + (is.length : Nat) + 1)
      rw [show b + (is.length : Int) + 1 - (b + ((is.length - j : Nat) : Int)) = (j : Int) + 1 by omega] at l
      unfold lastS
      omega
    · have g := (nbH_ge (bs := bs) (is := is) (v := nbH bs is is.length) (k := is.length)).mp (Int.le_refl _)
      rcases N.lst (b + (is.length : Nat)) (b + (is.length : Nat) + 1) with f | ⟨o, ho, f⟩
      · have := g 0 (by omega)
        rw [lastS_zero] at this
        rw [f, show b + (is.length : Int) + 1 - (b + (is.length : Int)) = ((0 : Nat) : Int) + 1 by omega]
        omega
      · obtain ⟨i, hi, rfl⟩ := M ho
        have := g (is.length - i) (by omega)
        unfold lastS at this
        rw [show is.length - (is.length - i) = i by omega] at this
        have e := I (i := is.length) (j := i) (Nat.le_refl _) hi
        rw [f, e, show b + (is.length : Int) + 1 - (b + (i : Int)) = ((is.length - i : Nat) : Int) + 1 by omega]
        omega
  · refine Int.le_antisymm ?_ (nbL_le.mpr fun j hj => ?_)
    · have g := (nbL_le (bs := bs) (is := is) (v := nbL bs is is.length) (k := is.length)).mp (Int.le_refl _)
      rcases N.fst (b + (is.length : Nat) + 1) (b + (is.length : Nat)) with f | ⟨o, ho, f⟩
      · have := g 0 (by omega)
        rw [lastS_zero] at this
        rw [f, show b + (is.length : Int) - (b + (is.length : Int) + 1) = -(((0 : Nat) : Int) + 1) by omega]
        omega
      · obtain ⟨i, hi, rfl⟩ := M ho
        have := g (is.length - i) (by omega)
        unfold lastS at this
        rw [show is.length - (is.length - i) = i by omega] at this
        have e := I (i := i) (j := is.length) hi (Nat.le_refl _)
        rw [f, e, show b + (i : Int) - (b + (is.length : Int) + 1) = -(((is.length - i : Nat) : Int) + 1) by omega]
        omega
    · have t := N.tri (b + (is.length : Nat) + 1) (b + ((is.length - j : Nat) : Int)) (b + (is.length : Nat))
      have e := I (i := is.length - j) (j := is.length) (by omega) (Nat.le_refl _)
      have l := N.le (b + (is.length : Nat) + 1) (b + ((is.length - j : Nat) : Int))
      rw [show b + ((is.length - j : Nat) : Int) - (b + (is.length : Int) + 1) = -((j : Int) + 1) by omega] at l
      unfold lastS
      omega
theorem find_congr {α β : Type _} {f g : α → Option β} : ∀ {l : List α}, (∀ x, x ∈ l → f x = g x) → l.findSome? f = l.findSome? g
  | [], _ => rfl
  | a :: l, h => by
    rw [List.findSome?_cons, List.findSome?_cons, h a (List.mem_cons_self ..), find_congr fun x hx => h x (List.mem_cons_of_mem _ hx)]
open Classical in
theorem lost_snoc {bs : List Bd} {is : List Int} {v : Int} : lostD bs (is ++ [v]) = (lostD bs is).or (if FitsN bs is v then none else some (.int (is.length : Nat))) := by
  unfold lostD
  rw [List.zipIdx_append, List.findSome?_append, List.zipIdx_singleton, Nat.zero_add]
  have e1 : is.zipIdx.findSome? (lostF bs (is ++ [v])) = is.zipIdx.findSome? (lostF bs is) := find_congr fun p hp => by
    obtain ⟨x, i⟩ := p
    obtain ⟨hi, _⟩ := List.getElem?_eq_some_iff.mp (List.mk_mem_zipIdx_iff_getElem?.mp hp)
    unfold lostF
    rw [List.take_append_of_le_length (by dsimp only; omega)]
  rw [e1, List.findSome?_cons, List.findSome?_nil]
  unfold lostF
  dsimp only
  rw [List.take_left']
  · split <;> simp_all
  · rfl
/-- single days as known sums go together just as the days do -/
theorem sing_lost {bs : List Bd} (B : Bk bs) (b : Int) (is : List Int) : natD (untied (sing b is) (fun a b => gs bs (b - a)) 0) = (lostD bs is).getD .non ∧ (untied (sing b is) (fun a b => gs bs (b - a)) 0 = none ↔ Fits bs is) := by
  have key : ∀ js : List Int, natD (untied (sing b js.reverse) (fun a b => gs bs (b - a)) 0) = (lostD bs js.reverse).getD .non := by
    intro js
    induction js with
    | nil => rfl
    | cons v js ih =>
      rw [List.reverse_cons, sing_snoc, lost_snoc]
      generalize js.reverse = l at *
      cases e : untied (sing b l) (fun a b => gs bs (b - a)) 0 with
      | some i =>
        rw [untied_more _ _ _ _ _ e]
        rw [e] at ih
        cases e2 : lostD bs l with
        | none => rw [e2] at ih; cases ih
        | some d => rw [e2] at ih; exact ih
      | none =>
        rw [e] at ih
        have e2 : lostD bs l = none := by
          cases e2 : lostD bs l with
          | none => rfl
          | some d =>
            obtain ⟨i, rfl⟩ := lost_some e2
            rw [e2] at ih
            cases ih
        rw [e2, untied_app _ _ _ _ e, sing_len]
        obtain ⟨n1, n2⟩ := sing_next B e
        dsimp only
        rw [n1, n2]
        by_cases c : FitsN bs l v
        · rw [if_pos (fitsN_iff.mp c), if_pos c]
          rfl
        · rw [if_neg (fun z => c (fitsN_iff.mpr z)), if_neg c, Nat.zero_add]
          rfl
  have k := key is.reverse
  rw [List.reverse_reverse] at k
  refine ⟨k, ?_⟩
  rw [← lost_none B]
  constructor
  · intro h
    rw [h] at k
    cases e : lostD bs is with
    | none => rfl
    | some d =>
      obtain ⟨i, rfl⟩ := lost_some e
      rw [e] at k
      cases k
  · intro h
    rw [h] at k
    cases e : untied (sing b is) (fun a b => gs bs (b - a)) 0 with
    | none => rfl
    | some i =>
      rw [e] at k
      cases k
theorem eds_get {D : Int → Int → Int} {g : Int} {n i : Nat} (h : i < (eds D g n).length) : (eds D g n)[i] = D g (g + ((i + 1 : Nat) : Int)) - D g (g + (i : Nat)) := by
  simp only [eds, List.getElem_map, List.getElem_range]
theorem lds_get {D : Int → Int → Int} {g : Int} {n i : Nat} (h : i < (lds D g n).length) : (lds D g n)[i] = -D (g + ((i + 1 : Nat) : Int)) g - -D (g + (i : Nat)) g := by
  simp only [lds, List.getElem_map, List.getElem_range]
/-- .. and the days of early and late rows behind them -/
theorem sing_days {bs : List Bd} (B : Bk bs) {b : Int} {is : List Int} (h : untied (sing b is) (fun a b => gs bs (b - a)) 0 = none) (m : Nat) :
    eds (endD (sing b is) fun a b => gs bs (b - a)) b (is.length + m) = is ++ eds (endD (sing b is) fun a b => gs bs (b - a)) (b + (is.length : Nat)) m ∧ lds (endD (sing b is) fun a b => gs bs (b - a)) b (is.length + m) = is ++ lds (endD (sing b is) fun a b => gs bs (b - a)) (b + (is.length : Nat)) m := by
  obtain ⟨N, U⟩ := end_is B h
  generalize (endD (sing b is) fun a b => gs bs (b - a)) = D at *
  have I := fun {i j : Nat} => sing_in U (N.self b) (i := i) (j := j)
  have I0 := I (i := is.length) (j := 0) (Nat.le_refl _) (by omega)
  have I1 := I (i := 0) (j := is.length) (by omega) (Nat.le_refl _)
  rw [show b + ((0 : Nat) : Int) = b by omega] at I0 I1
  have A1 : ∀ y, D b y = D b (b + (is.length : Nat)) + D (b + (is.length : Nat)) y := fun y => by
    have t1 := N.tri b (b + (is.length : Nat)) y
    have t2 := N.tri (b + (is.length : Nat)) b y
    omega
  have A2 : ∀ y, D y b = D y (b + (is.length : Nat)) + D (b + (is.length : Nat)) b := fun y => by
    have t1 := N.tri y (b + (is.length : Nat)) b
    have t2 := N.tri y b (b + (is.length : Nat))
    omega
  constructor
  · refine List.ext_getElem (by rw [eds_len, List.length_append, eds_len]) fun i h1 h2 => ?_
    have hm := h1
    rw [eds_len] at hm
    by_cases c : i < is.length
    · rw [List.getElem_append_left c, eds_get]
      have e1 := I (i := 0) (j := i + 1) (by omega) (by omega)
      have e2 := I (i := 0) (j := i) (by omega) (by omega)
      rw [show b + ((0 : Nat) : Int) = b by omega] at e1 e2
      rw [e1, e2, pre_succ c]
      omega
    · rw [List.getElem_append_right (by omega), eds_get, eds_get, A1 (b + ((i + 1 : Nat) : Int)), A1 (b + (i : Int)), show b + (is.length : Int) + ((i - is.length + 1 : Nat) : Int) = b + ((i + 1 : Nat) : Int) by omega,
        show b + (is.length : Int) + ((i - is.length : Nat) : Int) = b + (i : Int) by omega]
      omega
  · refine List.ext_getElem (by rw [lds_len, List.length_append, lds_len]) fun i h1 h2 => ?_
    have hm := h1
    rw [lds_len] at hm
    by_cases c : i < is.length
    · rw [List.getElem_append_left c, lds_get]
      have e1 := I (i := i + 1) (j := 0) (by omega) (by omega)
      have e2 := I (i := i) (j := 0) (by omega) (by omega)
      rw [show b + ((0 : Nat) : Int) = b by omega] at e1 e2
      rw [e1, e2, pre_succ c]
      omega
    · rw [List.getElem_append_right (by omega), lds_get, lds_get, A2 (b + ((i + 1 : Nat) : Int)), A2 (b + (i : Int)), show b + (is.length : Int) + ((i - is.length + 1 : Nat) : Int) = b + ((i + 1 : Nat) : Int) by omega,
        show b + (is.length : Int) + ((i - is.length : Nat) : Int) = b + (i : Int) by omega]
      omega
theorem sing_fits {bs : List Bd} (B : Bk bs) {b : Int} {is : List Int} (h : untied (sing b is) (fun a b => gs bs (b - a)) 0 = none) (m : Nat) :
    Fits bs (is ++ eds (endD (sing b is) fun a b => gs bs (b - a)) (b + (is.length : Nat)) m) ∧ Fits bs (is ++ lds (endD (sing b is) fun a b => gs bs (b - a)) (b + (is.length : Nat)) m) := by
  obtain ⟨e1, e2⟩ := sing_days B h m
  have N := (end_is B h).1
  rw [← e1, ← e2]
  exact ⟨eds_fits N b _, lds_fits N b _⟩
theorem sing_near {b : Int} {is : List Int} (hb : b.natAbs ≤ 10 ^ 49) (hl : is.length ≤ 1000) : NearK (sing b is) := fun k hk => by
  obtain ⟨i, hi, rfl⟩ := sing_mem.mp hk
  refine ⟨?_, ?_, ?_⟩
  · show (b + (i : Int)).natAbs ≤ _
    omega
  · show (b + (i : Int) + 1).natAbs ≤ _
    omega
  · show (1 : Int) ≤ 1
    omega
end LW

/-! R20: the law k20. -/
namespace LW
open PySem PySem.Spec PyProof.Rows L2 EV CT
def tornL : Option EV.D → List EV.D
  | some d => [d]
  | none => []
def w1 (d : EV.D) : EV.D := .lst [d]
theorem find_omap {α β γ : Type} (f : α → Option β) (w : β → γ) : ∀ l : List α, (l.findSome? fun a => (f a).map w) = (l.findSome? f).map w
  | [] => rfl
  | a :: l => by
    rw [List.findSome?_cons, List.findSome?_cons]
    cases f a with
    | none => exact find_omap f w l
    | some b => rfl
theorem torn_e {lo hi : Int} {rs : List Bd} {S : Sto} (hr : rs.length ≤ 1000) (hb : ∀ b, b ∈ (⟨1, lo, hi⟩ : Bd) :: rs → SmB b) : f_Lconflict [kdD lo hi rs] S = some (.ok (.lst (tornL (confl (⟨1, lo, hi⟩ :: rs)))), S) := by
  have q : OkE (f_Lconflict [kdD lo hi rs] S) fun d S' => d = .lst (tornL (confl (⟨1, lo, hi⟩ :: rs))) ∧ S' = S := by
    have bd := fun (S : Sto) => Lbounds_e (lo := lo) (hi := hi) (S := S) hr
    generalize hbs : (⟨1, lo, hi⟩ : Bd) :: rs = bs at *
    refine okE_fn rfl ?_
    unfold g_Lconflict
    simp only [okS_seq, okS_bndS, okE_bnd, u_for, u_set, u_enum, u_call, u_cons, u_nil, u_un, u_var, List.map_cons, List.map_nil, List.cons_append, List.nil_append, List.getElem?_cons_zero, List.getElem?_cons_succ, okE_ok, List.length_cons, List.length_nil, if_true, bd, okS_nx, List.replicate, List.set_cons_succ, List.set_cons_zero, enI_lst, enum_tris]
    have key := okS_find (g := fun _ => True) (gs := gTupT 2 (gConsT (EV.gName 2) (gConsT (EV.gName 3) gNilT)))
      (bs := xFor (xEnum (xCons (xVar 1) xNil)) (gTupT 2 (gConsT (EV.gName 4) (gConsT (EV.gName 5) gNilT))) (xIfS (xCmp (gCmp fun i j => decide (j < i)) (xBin gMul (xBin gIdx (xVar 3) (xC (.int 1))) (xBin gIdx (xVar 5) (xC (.int 0)))) (xBin gMul (xBin gIdx (xVar 5) (xC (.int 2))) (xBin gIdx (xVar 3) (xC (.int 0))))) (xRet (xFrz (xLst (xCons (xTup (xCons (xVar 2) (xCons (xVar 4) xNil))) xNil)))) xNx))
      (fun p : Bd × Nat => EV.D.tup [.int (p.2 : Nat), tri p.1]) (fun p => (confI bs p).map w1) (fun p => p.1 ∈ bs) (fun ρ S' => S' = S ∧ ∃ a2 a3 a4 a5, ρ = [some (kdD lo hi rs), some (.lst (tris bs)), a2, a3, a4, a5]) (R := fun S' => S' = S) ?_ (fun _ _ _ => trivial)
      bs.zipIdx [some (kdD lo hi rs), some (.lst (tris bs)), none, none, none, none] S (fun a ha => mem_zip ha) ⟨rfl, _, _, _, _, rfl⟩
    · refine key.imp (fun ρ S' z => ?_) (fun d S' z => ?_) (fun _ _ z => z) (fun _ _ z => z) (fun _ _ _ z => z)
      · obtain ⟨z1, rfl, _⟩ := z
        rw [find_omap] at z1
        have e : confl bs = none := Option.map_eq_none_iff.mp z1
        simp [e, tornL]
      · obtain ⟨z1, rfl⟩ := z
        rw [find_omap] at z1
        obtain ⟨d', e', rfl⟩ := Option.map_eq_some_iff.mp z1
        have e : confl bs = some d' := e'
        simp [e, tornL, w1]
    · rintro p ρ S' hp ⟨rfl, a2, a3, a4, a5, rfl⟩
      refine ⟨trivial, _, by simp; rfl, ?_⟩
      simp only [okS_bndS, okE_bnd, u_for, u_enum, u_cons, u_nil, u_un, u_var, List.getElem?_cons_zero, List.getElem?_cons_succ, okE_ok, enI_lst, enum_tris]
      have key := okS_find (g := fun _ => True) (gs := gTupT 2 (gConsT (EV.gName 4) (gConsT (EV.gName 5) gNilT)))
        (bs := xIfS (xCmp (gCmp fun i j => decide (j < i)) (xBin gMul (xBin gIdx (xVar 3) (xC (.int 1))) (xBin gIdx (xVar 5) (xC (.int 0)))) (xBin gMul (xBin gIdx (xVar 5) (xC (.int 2))) (xBin gIdx (xVar 3) (xC (.int 0))))) (xRet (xFrz (xLst (xCons (xTup (xCons (xVar 2) (xCons (xVar 4) xNil))) xNil)))) xNx)
        (fun p : Bd × Nat => EV.D.tup [.int (p.2 : Nat), tri p.1]) (fun q => (if q.1.m * p.1.w < p.1.l * q.1.w then some (EV.D.tup [.int (p.2 : Nat), .int (q.2 : Nat)]) else none).map w1) (fun p => p.1 ∈ bs)
        (fun ρ S'' => S'' = S' ∧ ∃ a4 a5, ρ = [some (kdD lo hi rs), some (.lst (tris bs)), some (.int (p.2 : Nat)), some (tri p.1), a4, a5]) (R := fun S'' => S'' = S') ?_ (fun _ _ _ => trivial)
        bs.zipIdx _ S' (fun a ha => mem_zip ha) ⟨rfl, a4, a5, rfl⟩
      · refine key.imp (fun ρ S'' z => ?_) (fun d S' z => ?_) (fun _ _ z => z) (fun _ _ z => z) (fun _ _ _ z => z)
        · obtain ⟨z1, rfl, b4, b5, rfl⟩ := z
          rw [find_omap] at z1
          exact ⟨z1, rfl, _, _, _, _, rfl⟩
        · obtain ⟨z1, rfl⟩ := z
          rw [find_omap] at z1
          exact ⟨z1, rfl⟩
      · rintro q ρ S'' hq ⟨rfl, b4, b5, rfl⟩
        refine ⟨trivial, _, by simp; rfl, ?_⟩
        have m1 := (hb _ hp).2.1.gm (hb _ hq).1
        have m2 := (hb _ hq).2.2.gm (hb _ hp).1
        by_cases c : q.1.m * p.1.w < p.1.l * q.1.w
        · simp [tri, m1, m2, c, w1]
        · simp [tri, m1, m2, c]
  obtain ⟨_, _, q1, rfl, rfl⟩ := q.eq
  exact q1
theorem strict_x {bs : List Bd} {S : Sto} {d : EV.D} {n : Int} (hb : ∀ b, b ∈ bs → SmB b) (h : confl bs = some d) : f_strictest_least [bk bs, .int n] S = some (.error (17, d), S) ∧ f_strictest_most [bk bs, .int n] S = some (.error (17, d), S) := by
  have s : f_shares [bk bs] S = some (.error (17, d), S) := er_eq (okE_fn rfl (by
    unfold g_shares
    simp [rows_x hb h]))
  refine ⟨er_eq (okE_fn rfl ?_), er_eq (okE_fn rfl ?_)⟩
  · unfold g_strictest_least
    simp only [okS_seq, u_asg, okS_bndS, u_bin, u_call, okE_bnd, u_cons, u_nil, u_var, List.map_cons, List.map_nil, List.cons_append, List.nil_append, List.getElem?_cons_zero, okE_ok, List.length_cons, List.length_nil, if_true, s, okE_er]
    exact ⟨rfl, rfl⟩
  · unfold g_strictest_most
    simp only [okS_seq, u_asg, okS_bndS, u_bin, u_call, okE_bnd, u_cons, u_nil, u_var, List.map_cons, List.map_nil, List.cons_append, List.nil_append, List.getElem?_cons_zero, okE_ok, List.length_cons, List.length_nil, if_true, s, okE_er]
    exact ⟨rfl, rfl⟩
theorem strict_y {b0 : Bd} {rs : List Bd} {S : Sto} {w : Int} (h : BookOk (b0 :: rs)) (w1 : w < 1) :
    f_strictest_least [bk (b0 :: rs), .int w] S = some (.error (13, .int w), S) ∧ f_strictest_most [bk (b0 :: rs), .int w] S = some (.error (13, .int w), S) := by
  obtain ⟨L, U, e1, e2, hL, hU, e⟩ := shares_e (S := S) (fun b hb => ⟨h.sm b hb, h.w0 b hb⟩) h.no
  have lx := length_x (S := S) w1
  refine ⟨er_eq (okE_fn rfl ?_), er_eq (okE_fn rfl ?_)⟩
  · unfold g_strictest_least
    simp only [okS_seq, u_asg, okS_bndS, u_bin, u_call, okE_bnd, u_cons, u_nil, u_var, List.map_cons, List.map_nil, List.cons_append, List.nil_append, List.getElem?_cons_zero, okE_ok, List.length_cons, List.length_nil, if_true, e, u_c, ix1T, frac, u_asgT, u_gConsT, u_gName, u_gNilT]
    simp [lx]
  · unfold g_strictest_most
    simp only [okS_seq, u_asg, okS_bndS, u_bin, u_call, okE_bnd, u_cons, u_nil, u_var, List.map_cons, List.map_nil, List.cons_append, List.nil_append, List.getElem?_cons_zero, okE_ok, List.length_cons, List.length_nil, if_true, e, u_c, ix0T, frac, u_asgT, u_gConsT, u_gName, u_gNilT]
    simp [lx]
theorem flags_e {c : Nat} {d : EV.D} {S : Sto} {w : Str} (hc : (c = 17 ∧ w = "r") ∨ (c = 13 ∧ w = "l")) : f_Lflags [.err c d] S = some (.ok (.lst [.str w, d]), S) := by
  have q : OkE (f_Lflags [.err c d] S) fun x S' => x = .lst [.str w, d] ∧ S' = S := by
    refine okE_fn rfl (?_ : OkS (g_Lflags [some (.err c d), none] S) _)
    unfold g_Lflags
    have gi : ∀ (b : Bool) S, gInt [.bl b] S = some (.ok (.int (if b then 1 else 0)), S) := fun b _ => by cases b <;> rfl
    have m1 : ∀ (x : Str) S, gMulS (.str x) (.int 1) S = some (.ok (.str x), S) := fun _ _ => rfl
    have m0 : ∀ (x : Str) S, gMulS (.str x) (.int 0) S = some (.ok (.str Str.empty), S) := fun _ _ => rfl
    have a1 : ∀ S, gAddS (.str "r") (.str Str.empty) S = some (.ok (.str "r"), S) := fun _ => rfl
    have a2 : ∀ S, gAddS (.str Str.empty) (.str "l") S = some (.ok (.str "l"), S) := fun _ => rfl
    have k1 : okL [17, 13] 17 = true := rfl
    have k2 : okL [17, 13] 13 = true := rfl
    have k3 : okL [17] 17 = true := rfl
    have k4 : okL [17] 13 = false := rfl
    have k5 : okL [13] 13 = true := rfl
    have k6 : okL [13] 17 = false := rfl
    have k7 : ∀ k, okL [] k = false := fun _ => rfl
    rw [okS_seq]
    rcases hc with ⟨rfl, rfl⟩ | ⟨rfl, rfl⟩
    · simp only [u_isE, k7, okS_bndS, okE_bnd, okE_ok, okS_nx, okS_rt, u_var, u_c, u_bin, u_un, u_nil, u_cons, u_tup, u_lst, chkT0, chkT1, chkT2, chkT3, chkL0, chkL1, chkL2, u_frz, u_cel, u_expr, u_ret, u_ifS, u_set, u_asg, u_asgT, u_asgN, u_nx, u_gName, u_gNilT, u_gConsT, u_gTupT, u_seqI, seqI_lst, seqI_tup, u_rng1, u_rng2, u_for, u_noP, u_part, partI_int, u_slL, slL_lst, u_app, u_callB, u_call, u_yes, u_gAdd, u_gSub, u_gNeg, u_gCmp, u_gMax2, u_gMin2, u_gLenL, ix0L, ix1L, ix2L, ix0T, ix1T, ix2T, u_newD, u_lc, u_and, u_or, u_not, u_ts, u_toB, u_cmp, u_bl, wipe_nil, wipe_cons, List.getElem?_cons_zero, List.getElem?_cons_succ, List.set_cons_succ, List.set_cons_zero, List.map_cons, List.map_nil, List.cons_append, List.nil_append, List.replicate, if_true, List.length_cons, List.length_nil, bnd_ok]
      rw [okS_seq]
      simp only [u_isE, u_errV, k1, k3, k6, k7, gi, u_if, m1, m0, a1, Bool.false_eq_true, if_false, Bool.not_true, ndF_rt, okS_bndS, okE_bnd, okE_ok, okS_nx, okS_rt, u_var, u_c, u_bin, u_un, u_nil, u_cons, u_tup, u_lst, chkT0, chkT1, chkT2, chkT3, chkL0, chkL1, chkL2, u_frz, u_cel, u_expr, u_ret, u_ifS, u_set, u_asg, u_asgT, u_asgN, u_nx, u_gName, u_gNilT, u_gConsT, u_gTupT, u_seqI, seqI_lst, seqI_tup, u_rng1, u_rng2, u_for, u_noP, u_part, partI_int, u_slL, slL_lst, u_app, u_callB, u_call, u_yes, u_gAdd, u_gSub, u_gNeg, u_gCmp, u_gMax2, u_gMin2, u_gLenL, ix0L, ix1L, ix2L, ix0T, ix1T, ix2T, u_newD, u_lc, u_and, u_or, u_not, u_ts, u_toB, u_cmp, u_bl, wipe_nil, wipe_cons, List.getElem?_cons_zero, List.getElem?_cons_succ, List.set_cons_succ, List.set_cons_zero, List.map_cons, List.map_nil, List.cons_append, List.nil_append, List.replicate, if_true, List.length_cons, List.length_nil, bnd_ok]
      exact ⟨trivial, trivial⟩
    · simp only [u_isE, k7, okS_bndS, okE_bnd, okE_ok, okS_nx, okS_rt, u_var, u_c, u_bin, u_un, u_nil, u_cons, u_tup, u_lst, chkT0, chkT1, chkT2, chkT3, chkL0, chkL1, chkL2, u_frz, u_cel, u_expr, u_ret, u_ifS, u_set, u_asg, u_asgT, u_asgN, u_nx, u_gName, u_gNilT, u_gConsT, u_gTupT, u_seqI, seqI_lst, seqI_tup, u_rng1, u_rng2, u_for, u_noP, u_part, partI_int, u_slL, slL_lst, u_app, u_callB, u_call, u_yes, u_gAdd, u_gSub, u_gNeg, u_gCmp, u_gMax2, u_gMin2, u_gLenL, ix0L, ix1L, ix2L, ix0T, ix1T, ix2T, u_newD, u_lc, u_and, u_or, u_not, u_ts, u_toB, u_cmp, u_bl, wipe_nil, wipe_cons, List.getElem?_cons_zero, List.getElem?_cons_succ, List.set_cons_succ, List.set_cons_zero, List.map_cons, List.map_nil, List.cons_append, List.nil_append, List.replicate, if_true, List.length_cons, List.length_nil, bnd_ok]
      rw [okS_seq]
      simp only [u_isE, u_errV, k2, k4, k5, k7, gi, u_if, m1, m0, a2, Bool.false_eq_true, if_false, Bool.not_true, ndF_rt, okS_bndS, okE_bnd, okE_ok, okS_nx, okS_rt, u_var, u_c, u_bin, u_un, u_nil, u_cons, u_tup, u_lst, chkT0, chkT1, chkT2, chkT3, chkL0, chkL1, chkL2, u_frz, u_cel, u_expr, u_ret, u_ifS, u_set, u_asg, u_asgT, u_asgN, u_nx, u_gName, u_gNilT, u_gConsT, u_gTupT, u_seqI, seqI_lst, seqI_tup, u_rng1, u_rng2, u_for, u_noP, u_part, partI_int, u_slL, slL_lst, u_app, u_callB, u_call, u_yes, u_gAdd, u_gSub, u_gNeg, u_gCmp, u_gMax2, u_gMin2, u_gLenL, ix0L, ix1L, ix2L, ix0T, ix1T, ix2T, u_newD, u_lc, u_and, u_or, u_not, u_ts, u_toB, u_cmp, u_bl, wipe_nil, wipe_cons, List.getElem?_cons_zero, List.getElem?_cons_succ, List.set_cons_succ, List.set_cons_zero, List.map_cons, List.map_nil, List.cons_append, List.nil_append, List.replicate, if_true, List.length_cons, List.length_nil, bnd_ok]
      exact ⟨trivial, trivial⟩
  obtain ⟨_, _, q1, rfl, rfl⟩ := q.eq
  exact q1
def dueD (bs : List Bd) (s : Int) : List EV.D := match confl bs with
  | some d => [.str "r", d]
  | none => if s < 1 then [.str "l", .int s] else []
theorem caught_e {bs : List Bd} {S : Sto} {which s : Int} (hw : which = 0 ∨ which = 1 ∨ which = 2 ∨ which = 3) (hb : ∀ b, b ∈ bs → SmB b) (hd : ∃ lo hi rs, bs = ⟨1, lo, hi⟩ :: rs) (hk : confl bs = none → BkOk bs) (low : ∀ k, S.all (lowS k) = true) (ss : Sm s) : f_Lcaught [.int which, bk bs, .int s] S = some (.ok (.lst (dueD bs s)), S) := by
  have q : OkE (f_Lcaught [.int which, bk bs, .int s] S) fun d S' => d = .lst (dueD bs s) ∧ S' = S := by
    refine okE_fn rfl (?_ : OkS (g_Lcaught [some (.int which), some (bk bs), some (.int s), none] S) _)
    unfold g_Lcaught
    have d10 : decide ((1 : Int) = 0) = false := rfl
    have d20 : decide ((2 : Int) = 0) = false := rfl
    have d30 : decide ((3 : Int) = 0) = false := rfl
    have d21 : decide ((2 : Int) = 1) = false := rfl
    have d31 : decide ((3 : Int) = 1) = false := rfl
    have d32 : decide ((3 : Int) = 2) = false := rfl
    have d0 : decide ((0 : Int) = 0) = true := rfl
    have d1 : decide ((1 : Int) = 1) = true := rfl
    have d2 : decide ((2 : Int) = 2) = true := rfl
    rw [okS_seq]
    refine okS_try ?_
    have sut : ∀ {c : Nat} {d : EV.D} {w : Str} {N : Nd}, ((c = 17 ∧ w = "r") ∨ (c = 13 ∧ w = "l")) → (∀ k, D.low k d = true) → N.rt (.lst [.str w, d]) S → OkS (sutE 3 (xRet (xCall 1 f_Lflags (xCons (xVar 3) xNil)) [some (.int which), some (bk bs), some (.int s), some (.err c d)] S)) N := fun {c d w N} hc hl q => by
      refine okS_sut ?_
      have F := flags_e (S := S) (d := d) hc
      simp only [F, okS_bndS, okE_bnd, okE_ok, okS_nx, okS_rt, u_var, u_c, u_bin, u_un, u_nil, u_cons, u_tup, u_lst, chkT0, chkT1, chkT2, chkT3, chkL0, chkL1, chkL2, u_frz, u_cel, u_expr, u_ret, u_ifS, u_set, u_asg, u_asgT, u_asgN, u_nx, u_gName, u_gNilT, u_gConsT, u_gTupT, u_seqI, seqI_lst, seqI_tup, u_rng1, u_rng2, u_for, u_noP, u_part, partI_int, u_slL, slL_lst, u_app, u_callB, u_call, u_yes, u_gAdd, u_gSub, u_gNeg, u_gCmp, u_gMax2, u_gMin2, u_gLenL, ix0L, ix1L, ix2L, ix0T, ix1T, ix2T, u_newD, u_lc, u_and, u_or, u_not, u_ts, u_toB, u_cmp, u_bl, wipe_nil, wipe_cons, List.getElem?_cons_zero, List.getElem?_cons_succ, List.set_cons_succ, List.set_cons_zero, List.map_cons, List.map_nil, List.cons_append, List.nil_append, List.replicate, if_true, List.length_cons, List.length_nil, bnd_ok]
      exact ⟨⟨low _, by simp [D.low, D.lowAll, hl]⟩, q⟩
    cases hc : confl bs with
    | some d =>
      obtain ⟨i, j, rfl⟩ := confl_low hc
      have x := strict_x (S := S) (n := s) hb hc
      have fq : EV.D.lst [.str "r", .tup [.int (i : Nat), .int (j : Nat)]] = .lst (dueD bs s) := by unfold dueD; rw [hc]
      have fl : ∀ k, D.low k (.tup [.int (i : Nat), .int (j : Nat)]) = true := fun k => by simp [D.low, D.lowAll]
      rcases hw with rfl | rfl | rfl | rfl
      all_goals
        simp only [u_callK, gxs10, u_expr, gEq_int, d0, d1, d2, d10, d20, d30, d21, d31, d32, Bool.false_eq_true, if_false, Bool.false_xor, x.1, x.2, okE_er, and_self, okS_bndS, okE_bnd, okE_ok, okS_nx, okS_rt, u_var, u_c, u_bin, u_un, u_nil, u_cons, u_tup, u_lst, chkT0, chkT1, chkT2, chkT3, chkL0, chkL1, chkL2, u_frz, u_cel, u_expr, u_ret, u_ifS, u_set, u_asg, u_asgT, u_asgN, u_nx, u_gName, u_gNilT, u_gConsT, u_gTupT, u_seqI, seqI_lst, seqI_tup, u_rng1, u_rng2, u_for, u_noP, u_part, partI_int, u_slL, slL_lst, u_app, u_callB, u_call, u_yes, u_gAdd, u_gSub, u_gNeg, u_gCmp, u_gMax2, u_gMin2, u_gLenL, ix0L, ix1L, ix2L, ix0T, ix1T, ix2T, u_newD, u_lc, u_and, u_or, u_not, u_ts, u_toB, u_cmp, u_bl, wipe_nil, wipe_cons, List.getElem?_cons_zero, List.getElem?_cons_succ, List.set_cons_succ, List.set_cons_zero, List.map_cons, List.map_nil, List.cons_append, List.nil_append, List.replicate, if_true, List.length_cons, List.length_nil, bnd_ok]
        exact ⟨rfl, fl _, sut (.inl ⟨rfl, rfl⟩) fl ⟨fq, rfl⟩⟩
    | none =>
      have B := hk hc
      obtain ⟨lo, hi, rs, rfl⟩ := hd
      have fq : s < 1 → EV.D.lst [.str "l", .int s] = .lst (dueD (⟨1, lo, hi⟩ :: rs) s) := fun h => by unfold dueD; rw [hc]; dsimp only; rw [if_pos h]
      have e0 : ¬ s < 1 → ([] : List EV.D) = dueD (⟨1, lo, hi⟩ :: rs) s := fun h => by unfold dueD; rw [hc]; dsimp only; rw [if_neg h]
      by_cases s0 : s < 1
      · have y := strict_y (S := S) B.ok s0
        rcases hw with rfl | rfl | rfl | rfl
        all_goals
          simp only [u_callK, gxs10, u_expr, gEq_int, d0, d1, d2, d10, d20, d30, d21, d31, d32, Bool.false_eq_true, if_false, Bool.false_xor, y.1, y.2, okE_er, and_self, okS_bndS, okE_bnd, okE_ok, okS_nx, okS_rt, u_var, u_c, u_bin, u_un, u_nil, u_cons, u_tup, u_lst, chkT0, chkT1, chkT2, chkT3, chkL0, chkL1, chkL2, u_frz, u_cel, u_expr, u_ret, u_ifS, u_set, u_asg, u_asgT, u_asgN, u_nx, u_gName, u_gNilT, u_gConsT, u_gTupT, u_seqI, seqI_lst, seqI_tup, u_rng1, u_rng2, u_for, u_noP, u_part, partI_int, u_slL, slL_lst, u_app, u_callB, u_call, u_yes, u_gAdd, u_gSub, u_gNeg, u_gCmp, u_gMax2, u_gMin2, u_gLenL, ix0L, ix1L, ix2L, ix0T, ix1T, ix2T, u_newD, u_lc, u_and, u_or, u_not, u_ts, u_toB, u_cmp, u_bl, wipe_nil, wipe_cons, List.getElem?_cons_zero, List.getElem?_cons_succ, List.set_cons_succ, List.set_cons_zero, List.map_cons, List.map_nil, List.cons_append, List.nil_append, List.replicate, if_true, List.length_cons, List.length_nil, bnd_ok]
          exact ⟨rfl, by simp [D.low], sut (.inr ⟨rfl, rfl⟩) (fun _ => by simp [D.low]) ⟨fq s0, rfl⟩⟩
      · have y := strict_e (S := S) (w := s) B.ok (by omega) ss
        rcases hw with rfl | rfl | rfl | rfl
        all_goals
          simp only [u_callK, gxs10, u_expr, gEq_int, d0, d1, d2, d10, d20, d30, d21, d31, d32, Bool.false_eq_true, if_false, Bool.false_xor, y.1, y.2, and_self, okS_bndS, okE_bnd, okE_ok, okS_nx, okS_rt, u_var, u_c, u_bin, u_un, u_nil, u_cons, u_tup, u_lst, chkT0, chkT1, chkT2, chkT3, chkL0, chkL1, chkL2, u_frz, u_cel, u_expr, u_ret, u_ifS, u_set, u_asg, u_asgT, u_asgN, u_nx, u_gName, u_gNilT, u_gConsT, u_gTupT, u_seqI, seqI_lst, seqI_tup, u_rng1, u_rng2, u_for, u_noP, u_part, partI_int, u_slL, slL_lst, u_app, u_callB, u_call, u_yes, u_gAdd, u_gSub, u_gNeg, u_gCmp, u_gMax2, u_gMin2, u_gLenL, ix0L, ix1L, ix2L, ix0T, ix1T, ix2T, u_newD, u_lc, u_and, u_or, u_not, u_ts, u_toB, u_cmp, u_bl, wipe_nil, wipe_cons, List.getElem?_cons_zero, List.getElem?_cons_succ, List.set_cons_succ, List.set_cons_zero, List.map_cons, List.map_nil, List.cons_append, List.nil_append, List.replicate, if_true, List.length_cons, List.length_nil, bnd_ok]
          exact ⟨by rw [← e0 s0], rfl⟩
  obtain ⟨_, _, q1, rfl, rfl⟩ := q.eq
  exact q1
theorem dueD_num {bs : List Bd} {s : Int} (hl : bs.length ≤ 1000) (ss : Sm s) : num 2 (.lst (dueD bs s)) ∧ rsz (.lst (dueD bs s)) ≤ 16000000 := by
  have a := confl_num hl
  unfold dueD
  cases e : confl bs with
  | some d =>
    rw [e] at a
    exact ⟨⟨by decide, num_n.2.2.1, a.1, trivial⟩, by
      have := a.2
      simp [rsz, rszs] at this ⊢
      omega⟩
  | none =>
    dsimp only
    split
    · exact ⟨⟨by decide, num_n.2.1, ss, trivial⟩, by simp [rsz, rszs]⟩
    · exact ⟨⟨by decide, trivial⟩, by simp [rsz, rszs]⟩
theorem torn_ne {bs : List Bd} {S : Sto} : gEq true (.lst (tornL (confl bs))) (.lst []) S = some (.ok (confl bs).isSome, S) := by
  cases e : confl bs with
  | none => exact gEq_refl (neg := true) (k := 1) ⟨by decide, trivial⟩ (by decide)
  | some d =>
    obtain ⟨i, j, rfl⟩ := confl_low e
    have e0 : gEq true (.lst (tornL (some (.tup [.int (i : Nat), .int (j : Nat)])))) (.lst []) S = gEqD true (.lst [.tup [.int (i : Nat), .int (j : Nat)]]) (.lst []) S := rfl
    rw [e0]
    unfold gEqD
    have e1 : EV.toPc S (.lst [.tup [.int (i : Nat), .int (j : Nat)]]) = some (.list [.tuple [.int (i : Nat), .int (j : Nat)]]) := rfl
    have e2 : EV.toPc S (.lst []) = some (.list []) := rfl
    rw [e1, e2]
    have s1 : SeqAt.shaped (.list [.tuple [.int (i : Nat), .int (j : Nat)]]) = true := by
      simp [SeqAt.shaped, PyData.canLay0, PyData.depth, PyData.canLay, PyData.canLayAll, PyData.canLayAll0, PyData.depthAll]
    dsimp only
    rw [s1, show SeqAt.shaped (.list []) = true from shp_l []]
    simp [PyData.eqv, PyData.eqvAll]
theorem torn_ix {bs : List Bd} {d : EV.D} {S : Sto} (h : confl bs = some d) : gIdx (.lst (tornL (confl bs))) (.int 0) S = some (.ok d, S) := by
  rw [h]
  exact ix0L
noncomputable def tailS : ES := xSeq (xPar 4 5 (xCons (xCall 1 f_Lmade (xCons (xVar 1) xNil)) (xCons (xCall 1 f_Lconflict (xCons (xVar 1) xNil)) xNil))) (xSeq (xFor (xSeqI (xTup (xCons (xC (.int 1)) (xCons (xC (.int 40)) (xCons (xC (.int 0)) (xCons (xUn gNeg (xC (.int 1))) (xCons (xBin gSub (xC (.int 0)) (xCall 2 f_Ldraw (xCons (xVar 0) (xCons (xBin gPow (xC (.int 10)) (xC (.int 30))) xNil)))) xNil))))))) (EV.gName 2) (xSeq (xSet 6 (xFrz (xLst xNil))) (xSeq (xIfS (xCmp (gEq true) (xVar 5) (xFrz (xLst xNil))) (xSet 6 (xFrz (xLst (xCons (xC (.str "r")) (xCons (xBin gIdx (xVar 5) (xC (.int 0))) xNil))))) (xIfS (xCmp (gCmp fun i j => decide (i < j)) (xVar 2) (xC (.int 1))) (xSet 6 (xFrz (xLst (xCons (xC (.str "l")) (xCons (xVar 2) xNil))))) xNx)) (xFor (xRng1 (xCons (xC (.int 4)) xNil)) (EV.gName 7) (xIfS (xCmp (gEq true) (xCallB gReprR (xCons (xCall 3 f_Lcaught (xCons (xVar 7) (xCons (xVar 4) (xCons (xVar 2) xNil)))) xNil)) (xCallB gReprR (xCons (xVar 6) xNil))) (xRet (xC (.bl false))) xNx))))) (xRet (xBl (xCmp (gOwnEq tcs 0 f_Book_eq) (xVar 4) (xCall 1 f_Lmade (xCons (xVar 1) xNil))))))
def inv20a (p : Nat) (kd b t : EV.D) (x3 : Option EV.D) (P1 : Sto) (ds : List EV.D) (ρ : Frm) (S : Sto) : Prop := S = P1 ∧ (∀ d, d ∈ ds → ∃ s : Int, d = .int s ∧ s.natAbs ≤ 10 ^ 30) ∧ ∃ x2 x6 x7, ρ = [some (.cell p), some kd, x2, x3, some b, some t, x6, x7]
def inv20b (p : Nat) (kd b t : EV.D) (x3 : Option EV.D) (P1 : Sto) (s : Int) (due : EV.D) (ρ : Frm) (S : Sto) : Prop := S = P1 ∧ ∃ x7, ρ = [some (.cell p), some kd, some (.int s), x3, some b, some t, some due, x7]
theorem tail_e {n m p : Nat} {P : Sto} {lo hi : Int} {rs : List Bd} {x2 x3 : Option EV.D} {N : Nd} (h : PS n (m + 100) P) (hp : p < n) (lh : lo ≤ hi) (l0 : lo.natAbs ≤ 20) (l1 : hi.natAbs ≤ 20)
    (hr : ∀ b, b ∈ rs → okR b = true ∧ SmB b ∧ b.w ≤ 40) (hl : rs.length ≤ 5) (q : ∀ P', PS n m P' → N.rt (.bl true) P') :
    OkS (tailS [some (.cell p), some (kdD lo hi rs), x2, x3, none, none, none, none] P) N := by
  have hb : ∀ b, b ∈ (⟨1, lo, hi⟩ : Bd) :: rs → SmB b := fun b hb => by
    rcases List.mem_cons.mp hb with rfl | hb
    · exact ⟨by show Sm 1; decide +kernel, Sm.of (n := 20) l0 (by decide +kernel), Sm.of (n := 20) l1 (by decide +kernel)⟩
    · exact (hr b hb).2.1
  have hk : confl ((⟨1, lo, hi⟩ : Bd) :: rs) = none → BkOk (⟨1, lo, hi⟩ :: rs) := (bk_of l0 l1 hr (by omega)).2
  have LM := fun {m' : Nat} {P' : Sto} (h : PS n m' P') => Lmade_e (S := P') lh (fun b hb => (hr b hb).1) (by omega) (h.low _)
  have DU := torn_e (S := P) (by omega) hb
  have hd : ∃ a b c, (⟨1, lo, hi⟩ : Bd) :: rs = ⟨1, a, b⟩ :: c := ⟨_, _, _, rfl⟩
  have bl : ((⟨1, lo, hi⟩ : Bd) :: rs).length ≤ 1000 := by rw [List.length_cons]; omega
  unfold kdD at *
  generalize hkd : EV.D.tup [.int lo, .int hi, .lst (tris rs)] = kd at *
  generalize hbs : (⟨1, lo, hi⟩ : Bd) :: rs = bs at *
  unfold tailS
  rw [okS_seq]
  have LM0 := LM h
  simp only [u_par, LM0, DU, u_parS, okS_bndS, okE_bnd, okE_ok, okS_nx, okS_rt, u_var, u_c, u_bin, u_un, u_nil, u_cons, u_tup, u_lst, chkT0, chkT1, chkT2, chkT3, chkL0, chkL1, chkL2, u_frz, u_cel, u_expr, u_ret, u_ifS, u_set, u_asg, u_asgT, u_asgN, u_nx, u_gName, u_gNilT, u_gConsT, u_gTupT, u_seqI, seqI_lst, seqI_tup, u_rng1, u_rng2, u_for, u_noP, u_part, partI_int, u_slL, slL_lst, u_app, u_callB, u_call, u_yes, u_gAdd, u_gSub, u_gNeg, u_gCmp, u_gMax2, u_gMin2, u_gLenL, ix0L, ix1L, ix2L, ix0T, ix1T, ix2T, u_newD, u_lc, u_and, u_or, u_not, u_ts, u_toB, u_cmp, u_bl, wipe_nil, wipe_cons, List.getElem?_cons_zero, List.getElem?_cons_succ, List.set_cons_succ, List.set_cons_zero, List.map_cons, List.map_nil, List.cons_append, List.nil_append, List.replicate, if_true, List.length_cons, List.length_nil, bnd_ok]
  have cT5 : ∀ (a b c d e : EV.D) S, chkT [a, b, c, d, e] S = some (.ok (.tup [a, b, c, d, e]), S) := fun a b c d e S => chkT_of (by simp [cap])
  have gp30 : ∀ S, gPow (.int 10) (.int 30) S = some (.ok (.int (10 ^ 30)), S) := fun S => gPow_of (show powOk 10 30 = true by decide +kernel)
  rw [okS_seq]
  simp only [gp30, okS_bndS, okE_bnd, okE_ok, okS_nx, okS_rt, u_var, u_c, u_bin, u_un, u_nil, u_cons, u_tup, u_lst, chkT0, chkT1, chkT2, chkT3, chkL0, chkL1, chkL2, u_frz, u_cel, u_expr, u_ret, u_ifS, u_set, u_asg, u_asgT, u_asgN, u_nx, u_gName, u_gNilT, u_gConsT, u_gTupT, u_seqI, seqI_lst, seqI_tup, u_rng1, u_rng2, u_for, u_noP, u_part, partI_int, u_slL, slL_lst, u_app, u_callB, u_call, u_yes, u_gAdd, u_gSub, u_gNeg, u_gCmp, u_gMax2, u_gMin2, u_gLenL, ix0L, ix1L, ix2L, ix0T, ix1T, ix2T, u_newD, u_lc, u_and, u_or, u_not, u_ts, u_toB, u_cmp, u_bl, wipe_nil, wipe_cons, List.getElem?_cons_zero, List.getElem?_cons_succ, List.set_cons_succ, List.set_cons_zero, List.map_cons, List.map_nil, List.cons_append, List.nil_append, List.replicate, if_true, List.length_cons, List.length_nil, bnd_ok]
  refine draw0 (m := m + 99) h hp (by decide) (by decide +kernel) fun r1 P1 r10 r11 h1 => ?_
  simp only [cT5, okS_bndS, okE_bnd, okE_ok, okS_nx, okS_rt, u_var, u_c, u_bin, u_un, u_nil, u_cons, u_tup, u_lst, chkT0, chkT1, chkT2, chkT3, chkL0, chkL1, chkL2, u_frz, u_cel, u_expr, u_ret, u_ifS, u_set, u_asg, u_asgT, u_asgN, u_nx, u_gName, u_gNilT, u_gConsT, u_gTupT, u_seqI, seqI_lst, seqI_tup, u_rng1, u_rng2, u_for, u_noP, u_part, partI_int, u_slL, slL_lst, u_app, u_callB, u_call, u_yes, u_gAdd, u_gSub, u_gNeg, u_gCmp, u_gMax2, u_gMin2, u_gLenL, ix0L, ix1L, ix2L, ix0T, ix1T, ix2T, u_newD, u_lc, u_and, u_or, u_not, u_ts, u_toB, u_cmp, u_bl, wipe_nil, wipe_cons, List.getElem?_cons_zero, List.getElem?_cons_succ, List.set_cons_succ, List.set_cons_zero, List.map_cons, List.map_nil, List.cons_append, List.nil_append, List.replicate, if_true, List.length_cons, List.length_nil, bnd_ok]
  have DN : ∀ {s : Int}, Sm s → ∀ S, gReprR [.lst (dueD bs s)] S = some (.ok (.str (rtx (.lst (dueD bs s)))), S) := fun ss S => repr_n (S := S) (k := 2) (dueD_num bl ss).1 (by decide) (dueD_num bl ss).2 (.inr ⟨_, rfl⟩)
  have TN := fun S => torn_ne (bs := bs) (S := S)
  have TI := fun d S => torn_ix (bs := bs) (d := d) (S := S)
  generalize hT : EV.D.lst (tornL (confl bs)) = T at *
  refine okS_for (inv20a p kd (bk bs) T x3 P1) _ _ _ ⟨rfl, ?_, _, _, _, rfl⟩ ?_ ?_
  · intro d hd
    simp only [List.mem_cons, List.not_mem_nil, or_false] at hd
    rcases hd with rfl | rfl | rfl | rfl | rfl
    · exact ⟨_, rfl, by omega⟩
    · exact ⟨_, rfl, by omega⟩
    · exact ⟨_, rfl, by omega⟩
    · exact ⟨_, rfl, by omega⟩
    · exact ⟨_, rfl, by omega⟩
  · rintro d ds ρ S ⟨rfl, hd1, y2, x6, x7, rfl⟩
    obtain ⟨s, rfl, s0⟩ := hd1 _ (List.mem_cons_self ..)
    have hd' := fun d h => hd1 d (List.mem_cons_of_mem _ h)
    refine ⟨trivial, _, u_gName, ?_⟩
    have ss : Sm s := Sm.of s0 (by decide +kernel)
    clear s0
    rw [okS_seq]
    simp only [okS_bndS, okE_bnd, okE_ok, okS_nx, okS_rt, u_var, u_c, u_bin, u_un, u_nil, u_cons, u_tup, u_lst, chkT0, chkT1, chkT2, chkT3, chkL0, chkL1, chkL2, u_frz, u_cel, u_expr, u_ret, u_ifS, u_set, u_asg, u_asgT, u_asgN, u_nx, u_gName, u_gNilT, u_gConsT, u_gTupT, u_seqI, seqI_lst, seqI_tup, u_rng1, u_rng2, u_for, u_noP, u_part, partI_int, u_slL, slL_lst, u_app, u_callB, u_call, u_yes, u_gAdd, u_gSub, u_gNeg, u_gCmp, u_gMax2, u_gMin2, u_gLenL, ix0L, ix1L, ix2L, ix0T, ix1T, ix2T, u_newD, u_lc, u_and, u_or, u_not, u_ts, u_toB, u_cmp, u_bl, wipe_nil, wipe_cons, List.getElem?_cons_zero, List.getElem?_cons_succ, List.set_cons_succ, List.set_cons_zero, List.map_cons, List.map_nil, List.cons_append, List.nil_append, List.replicate, if_true, List.length_cons, List.length_nil, bnd_ok]
    rw [okS_seq]
    refine OkS.imp (N := { nx := inv20b p kd (bk bs) T x3 S s (.lst (dueD bs s)) }) ?_ ?_ (fun _ _ z => z.elim) (fun _ _ z => z.elim) (fun _ _ z => z.elim) (fun _ _ _ z => z.elim)
    · cases hc : confl bs with
      | some d =>
        have dd : dueD bs s = [.str "r", d] := by unfold dueD; rw [hc]
        rw [hc] at TN
        have TN1 : ∀ S, gEq true T (.lst []) S = some (.ok true, S) := TN
        have TI1 := fun S => TI d S hc
        rw [dd]
        simp only [TN1, TI1, okS_bndS, okE_bnd, okE_ok, okS_nx, okS_rt, u_var, u_c, u_bin, u_un, u_nil, u_cons, u_tup, u_lst, chkT0, chkT1, chkT2, chkT3, chkL0, chkL1, chkL2, u_frz, u_cel, u_expr, u_ret, u_ifS, u_set, u_asg, u_asgT, u_asgN, u_nx, u_gName, u_gNilT, u_gConsT, u_gTupT, u_seqI, seqI_lst, seqI_tup, u_rng1, u_rng2, u_for, u_noP, u_part, partI_int, u_slL, slL_lst, u_app, u_callB, u_call, u_yes, u_gAdd, u_gSub, u_gNeg, u_gCmp, u_gMax2, u_gMin2, u_gLenL, ix0L, ix1L, ix2L, ix0T, ix1T, ix2T, u_newD, u_lc, u_and, u_or, u_not, u_ts, u_toB, u_cmp, u_bl, wipe_nil, wipe_cons, List.getElem?_cons_zero, List.getElem?_cons_succ, List.set_cons_succ, List.set_cons_zero, List.map_cons, List.map_nil, List.cons_append, List.nil_append, List.replicate, if_true, List.length_cons, List.length_nil, bnd_ok]
        exact ⟨rfl, _, rfl⟩
      | none =>
        rw [hc] at TN
        have TN1 : ∀ S, gEq true T (.lst []) S = some (.ok false, S) := TN
        by_cases c2 : s < 1
        · have dd : dueD bs s = [.str "l", .int s] := by unfold dueD; rw [hc]; dsimp only; rw [if_pos c2]
          rw [dd]
          simp only [TN1, Bool.false_eq_true, if_false, decide_eq_true c2, okS_bndS, okE_bnd, okE_ok, okS_nx, okS_rt, u_var, u_c, u_bin, u_un, u_nil, u_cons, u_tup, u_lst, chkT0, chkT1, chkT2, chkT3, chkL0, chkL1, chkL2, u_frz, u_cel, u_expr, u_ret, u_ifS, u_set, u_asg, u_asgT, u_asgN, u_nx, u_gName, u_gNilT, u_gConsT, u_gTupT, u_seqI, seqI_lst, seqI_tup, u_rng1, u_rng2, u_for, u_noP, u_part, partI_int, u_slL, slL_lst, u_app, u_callB, u_call, u_yes, u_gAdd, u_gSub, u_gNeg, u_gCmp, u_gMax2, u_gMin2, u_gLenL, ix0L, ix1L, ix2L, ix0T, ix1T, ix2T, u_newD, u_lc, u_and, u_or, u_not, u_ts, u_toB, u_cmp, u_bl, wipe_nil, wipe_cons, List.getElem?_cons_zero, List.getElem?_cons_succ, List.set_cons_succ, List.set_cons_zero, List.map_cons, List.map_nil, List.cons_append, List.nil_append, List.replicate, if_true, List.length_cons, List.length_nil, bnd_ok]
          exact ⟨rfl, _, rfl⟩
        · have dd : dueD bs s = [] := by unfold dueD; rw [hc]; dsimp only; rw [if_neg c2]
          rw [dd]
          simp only [TN1, Bool.false_eq_true, if_false, decide_eq_false c2, okS_bndS, okE_bnd, okE_ok, okS_nx, okS_rt, u_var, u_c, u_bin, u_un, u_nil, u_cons, u_tup, u_lst, chkT0, chkT1, chkT2, chkT3, chkL0, chkL1, chkL2, u_frz, u_cel, u_expr, u_ret, u_ifS, u_set, u_asg, u_asgT, u_asgN, u_nx, u_gName, u_gNilT, u_gConsT, u_gTupT, u_seqI, seqI_lst, seqI_tup, u_rng1, u_rng2, u_for, u_noP, u_part, partI_int, u_slL, slL_lst, u_app, u_callB, u_call, u_yes, u_gAdd, u_gSub, u_gNeg, u_gCmp, u_gMax2, u_gMin2, u_gLenL, ix0L, ix1L, ix2L, ix0T, ix1T, ix2T, u_newD, u_lc, u_and, u_or, u_not, u_ts, u_toB, u_cmp, u_bl, wipe_nil, wipe_cons, List.getElem?_cons_zero, List.getElem?_cons_succ, List.set_cons_succ, List.set_cons_zero, List.map_cons, List.map_nil, List.cons_append, List.nil_append, List.replicate, if_true, List.length_cons, List.length_nil, bnd_ok]
          exact ⟨rfl, _, rfl⟩
    rintro ρ S2 ⟨rfl, y7, rfl⟩
    dsimp only
    simp only [okS_bndS, okE_bnd, okE_ok, okS_nx, okS_rt, u_var, u_c, u_bin, u_un, u_nil, u_cons, u_tup, u_lst, chkT0, chkT1, chkT2, chkT3, chkL0, chkL1, chkL2, u_frz, u_cel, u_expr, u_ret, u_ifS, u_set, u_asg, u_asgT, u_asgN, u_nx, u_gName, u_gNilT, u_gConsT, u_gTupT, u_seqI, seqI_lst, seqI_tup, u_rng1, u_rng2, u_for, u_noP, u_part, partI_int, u_slL, slL_lst, u_app, u_callB, u_call, u_yes, u_gAdd, u_gSub, u_gNeg, u_gCmp, u_gMax2, u_gMin2, u_gLenL, ix0L, ix1L, ix2L, ix0T, ix1T, ix2T, u_newD, u_lc, u_and, u_or, u_not, u_ts, u_toB, u_cmp, u_bl, wipe_nil, wipe_cons, List.getElem?_cons_zero, List.getElem?_cons_succ, List.set_cons_succ, List.set_cons_zero, List.map_cons, List.map_nil, List.cons_append, List.nil_append, List.replicate, if_true, List.length_cons, List.length_nil, bnd_ok]
    rw [rng1_of (by decide) (by decide)]
    simp only [okS_bndS, okE_bnd, okE_ok, okS_nx, okS_rt, u_var, u_c, u_bin, u_un, u_nil, u_cons, u_tup, u_lst, chkT0, chkT1, chkT2, chkT3, chkL0, chkL1, chkL2, u_frz, u_cel, u_expr, u_ret, u_ifS, u_set, u_asg, u_asgT, u_asgN, u_nx, u_gName, u_gNilT, u_gConsT, u_gTupT, u_seqI, seqI_lst, seqI_tup, u_rng1, u_rng2, u_for, u_noP, u_part, partI_int, u_slL, slL_lst, u_app, u_callB, u_call, u_yes, u_gAdd, u_gSub, u_gNeg, u_gCmp, u_gMax2, u_gMin2, u_gLenL, ix0L, ix1L, ix2L, ix0T, ix1T, ix2T, u_newD, u_lc, u_and, u_or, u_not, u_ts, u_toB, u_cmp, u_bl, wipe_nil, wipe_cons, List.getElem?_cons_zero, List.getElem?_cons_succ, List.set_cons_succ, List.set_cons_zero, List.map_cons, List.map_nil, List.cons_append, List.nil_append, List.replicate, if_true, List.length_cons, List.length_nil, bnd_ok]
    refine okS_range (fun i ρ S => inv20b p kd (bk bs) T x3 S2 s (.lst (dueD bs s)) ρ S) ⟨rfl, _, rfl⟩ ?_ ?_
    · rintro i hi ρ S ⟨rfl, x8, rfl⟩
      refine ⟨trivial, _, u_gName, ?_⟩
      have hi4 : i < 4 := hi
      have e0 : ((0 : Int) + (i : Nat)) = i := by omega
      rw [e0]
      have CA := caught_e (S := S) (which := i) (s := s) (by omega) hb hd hk h1.low ss
      have RD := DN ss S
      simp only [CA, RD, gEq_str, eq_self, decide_true, Bool.true_xor, Bool.not_true, Bool.false_eq_true, if_false, okS_bndS, okE_bnd, okE_ok, okS_nx, okS_rt, u_var, u_c, u_bin, u_un, u_nil, u_cons, u_tup, u_lst, chkT0, chkT1, chkT2, chkT3, chkL0, chkL1, chkL2, u_frz, u_cel, u_expr, u_ret, u_ifS, u_set, u_asg, u_asgT, u_asgN, u_nx, u_gName, u_gNilT, u_gConsT, u_gTupT, u_seqI, seqI_lst, seqI_tup, u_rng1, u_rng2, u_for, u_noP, u_part, partI_int, u_slL, slL_lst, u_app, u_callB, u_call, u_yes, u_gAdd, u_gSub, u_gNeg, u_gCmp, u_gMax2, u_gMin2, u_gLenL, ix0L, ix1L, ix2L, ix0T, ix1T, ix2T, u_newD, u_lc, u_and, u_or, u_not, u_ts, u_toB, u_cmp, u_bl, wipe_nil, wipe_cons, List.getElem?_cons_zero, List.getElem?_cons_succ, List.set_cons_succ, List.set_cons_zero, List.map_cons, List.map_nil, List.cons_append, List.nil_append, List.replicate, if_true, List.length_cons, List.length_nil, bnd_ok]
      exact ⟨rfl, _, rfl⟩
    · rintro ρ S ⟨rfl, x8, rfl⟩
      exact ⟨trivial, rfl, hd', _, _, _, rfl⟩
  · rintro ρ S ⟨rfl, hd1, y2, x6, x7, rfl⟩
    refine ⟨trivial, ?_⟩
    have LM1 := LM h1
    have ER := eq_refl_e (S := S) hb
    simp only [LM1, ER, okS_bndS, okE_bnd, okE_ok, okS_nx, okS_rt, u_var, u_c, u_bin, u_un, u_nil, u_cons, u_tup, u_lst, chkT0, chkT1, chkT2, chkT3, chkL0, chkL1, chkL2, u_frz, u_cel, u_expr, u_ret, u_ifS, u_set, u_asg, u_asgT, u_asgN, u_nx, u_gName, u_gNilT, u_gConsT, u_gTupT, u_seqI, seqI_lst, seqI_tup, u_rng1, u_rng2, u_for, u_noP, u_part, partI_int, u_slL, slL_lst, u_app, u_callB, u_call, u_yes, u_gAdd, u_gSub, u_gNeg, u_gCmp, u_gMax2, u_gMin2, u_gLenL, ix0L, ix1L, ix2L, ix0T, ix1T, ix2T, u_newD, u_lc, u_and, u_or, u_not, u_ts, u_toB, u_cmp, u_bl, wipe_nil, wipe_cons, List.getElem?_cons_zero, List.getElem?_cons_succ, List.set_cons_succ, List.set_cons_zero, List.map_cons, List.map_nil, List.cons_append, List.nil_append, List.replicate, if_true, List.length_cons, List.length_nil, bnd_ok]
    exact q S (h1.mono (by omega))
set_option maxHeartbeats 1000000 in
theorem Lright_e {n m p : Nat} {P : Sto} {Q : EV.D → Sto → Prop} {X : Er → Sto → Prop} (h : PS n (m + 1000) P) (hp : p < n) (q : ∀ P', PS n m P' → Q (.bl true) P') : OkE (f_Lright [.cell p] P) Q X := by
  refine okE_fn rfl (?_ : OkS (g_Lright [some (.cell p), none, none, none, none, none, none, none] P) _)
  unfold g_Lright
  rw [okS_seq]
  try simp only [okS_bndS, okE_bnd, okE_ok, okS_nx, okS_rt, u_var, u_c, u_bin, u_un, u_nil, u_cons, u_tup, u_lst, chkT0, chkT1, chkT2, chkT3, chkL0, chkL1, chkL2, u_frz, u_cel, u_expr, u_ret, u_ifS, u_set, u_asg, u_asgT, u_asgN, u_nx, u_gName, u_gNilT, u_gConsT, u_gTupT, u_seqI, seqI_lst, seqI_tup, u_rng1, u_rng2, u_for, u_noP, u_part, partI_int, u_slL, slL_lst, u_app, u_callB, u_call, u_yes, u_gAdd, u_gSub, u_gNeg, u_gCmp, u_gMax2, u_gMin2, u_gLenL, ix0L, ix1L, ix2L, ix0T, ix1T, ix2T, u_newD, u_lc, u_and, u_or, u_not, u_ts, u_toB, u_cmp, u_bl, wipe_nil, wipe_cons, List.getElem?_cons_zero, List.getElem?_cons_succ, List.set_cons_succ, List.set_cons_zero, List.map_cons, List.map_nil, List.cons_append, List.nil_append, List.replicate, if_true, List.length_cons, List.length_nil, bnd_ok]
  refine kind_e (m := m + 800) (h.mono (by omega)) hp (by decide) (by decide) (by decide) (by decide) fun lo hi rs P1 h1 K => ?_
  try simp only [okS_bndS, okE_bnd, okE_ok, okS_nx, okS_rt, u_var, u_c, u_bin, u_un, u_nil, u_cons, u_tup, u_lst, chkT0, chkT1, chkT2, chkT3, chkL0, chkL1, chkL2, u_frz, u_cel, u_expr, u_ret, u_ifS, u_set, u_asg, u_asgT, u_asgN, u_nx, u_gName, u_gNilT, u_gConsT, u_gTupT, u_seqI, seqI_lst, seqI_tup, u_rng1, u_rng2, u_for, u_noP, u_part, partI_int, u_slL, slL_lst, u_app, u_callB, u_call, u_yes, u_gAdd, u_gSub, u_gNeg, u_gCmp, u_gMax2, u_gMin2, u_gLenL, ix0L, ix1L, ix2L, ix0T, ix1T, ix2T, u_newD, u_lc, u_and, u_or, u_not, u_ts, u_toB, u_cmp, u_bl, wipe_nil, wipe_cons, List.getElem?_cons_zero, List.getElem?_cons_succ, List.set_cons_succ, List.set_cons_zero, List.map_cons, List.map_nil, List.cons_append, List.nil_append, List.replicate, if_true, List.length_cons, List.length_nil, bnd_ok]
  have day := K.days
  have klh := K.lh
  rw [okS_seq]
  try simp only [okS_bndS, okE_bnd, okE_ok, okS_nx, okS_rt, u_var, u_c, u_bin, u_un, u_nil, u_cons, u_tup, u_lst, chkT0, chkT1, chkT2, chkT3, chkL0, chkL1, chkL2, u_frz, u_cel, u_expr, u_ret, u_ifS, u_set, u_asg, u_asgT, u_asgN, u_nx, u_gName, u_gNilT, u_gConsT, u_gTupT, u_seqI, seqI_lst, seqI_tup, u_rng1, u_rng2, u_for, u_noP, u_part, partI_int, u_slL, slL_lst, u_app, u_callB, u_call, u_yes, u_gAdd, u_gSub, u_gNeg, u_gCmp, u_gMax2, u_gMin2, u_gLenL, ix0L, ix1L, ix2L, ix0T, ix1T, ix2T, u_newD, u_lc, u_and, u_or, u_not, u_ts, u_toB, u_cmp, u_bl, wipe_nil, wipe_cons, List.getElem?_cons_zero, List.getElem?_cons_succ, List.set_cons_succ, List.set_cons_zero, List.map_cons, List.map_nil, List.cons_append, List.nil_append, List.replicate, if_true, List.length_cons, List.length_nil, bnd_ok]
  refine draw0 (m := m + 799) h1 hp (by decide) (by decide +kernel) fun r1 P2 r10 r11 h2 => ?_
  have kr : ∀ b, b ∈ rs → okR b = true ∧ SmB b ∧ b.w ≤ 40 := fun b hb => ⟨K.okR (by decide) b hb, K.book (by decide) |>.sm b (List.mem_cons_of_mem _ hb), by
    obtain ⟨u, v, _, _, _, _, hr⟩ := K.ex
    have := (hr b hb).2.1
    omega⟩
  have kl : rs.length ≤ 4 := by
    have := K.ln
    omega
  have sub : ∀ (rs : List Bd) (P2 : Sto) (x2 x3 : Option EV.D), PS n (m + 100) P2 → (∀ b, b ∈ rs → okR b = true ∧ SmB b ∧ b.w ≤ 40) → rs.length ≤ 5 → OkS (tailS [some (.cell p), some (kdD lo hi rs), x2, x3, none, none, none, none] P2) (ndF Q X) :=
    fun rs P2 x2 x3 h2 hr hl => tail_e h2 hp klh day.1 day.2 hr hl fun P' h' => by
      rw [ndF_rt]
      exact q P' h'
  by_cases e : r1 = 0
  · simp only [gEq_int, Bool.false_xor, decide_eq_true e, okS_bndS, okE_bnd, okE_ok, okS_nx, okS_rt, u_var, u_c, u_bin, u_un, u_nil, u_cons, u_tup, u_lst, chkT0, chkT1, chkT2, chkT3, chkL0, chkL1, chkL2, u_frz, u_cel, u_expr, u_ret, u_ifS, u_set, u_asg, u_asgT, u_asgN, u_nx, u_gName, u_gNilT, u_gConsT, u_gTupT, u_seqI, seqI_lst, seqI_tup, u_rng1, u_rng2, u_for, u_noP, u_part, partI_int, u_slL, slL_lst, u_app, u_callB, u_call, u_yes, u_gAdd, u_gSub, u_gNeg, u_gCmp, u_gMax2, u_gMin2, u_gLenL, ix0L, ix1L, ix2L, ix0T, ix1T, ix2T, u_newD, u_lc, u_and, u_or, u_not, u_ts, u_toB, u_cmp, u_bl, wipe_nil, wipe_cons, List.getElem?_cons_zero, List.getElem?_cons_succ, List.set_cons_succ, List.set_cons_zero, List.map_cons, List.map_nil, List.cons_append, List.nil_append, List.replicate, if_true, List.length_cons, List.length_nil, bnd_ok]
    rw [okS_seq]
    simp only [u_par, okS_bndS, okE_bnd, okE_ok, okS_nx, okS_rt, u_var, u_c, u_bin, u_un, u_nil, u_cons, u_tup, u_lst, chkT0, chkT1, chkT2, chkT3, chkL0, chkL1, chkL2, u_frz, u_cel, u_expr, u_ret, u_ifS, u_set, u_asg, u_asgT, u_asgN, u_nx, u_gName, u_gNilT, u_gConsT, u_gTupT, u_seqI, seqI_lst, seqI_tup, u_rng1, u_rng2, u_for, u_noP, u_part, partI_int, u_slL, slL_lst, u_app, u_callB, u_call, u_yes, u_gAdd, u_gSub, u_gNeg, u_gCmp, u_gMax2, u_gMin2, u_gLenL, ix0L, ix1L, ix2L, ix0T, ix1T, ix2T, u_newD, u_lc, u_and, u_or, u_not, u_ts, u_toB, u_cmp, u_bl, wipe_nil, wipe_cons, List.getElem?_cons_zero, List.getElem?_cons_succ, List.set_cons_succ, List.set_cons_zero, List.map_cons, List.map_nil, List.cons_append, List.nil_append, List.replicate, if_true, List.length_cons, List.length_nil, bnd_ok]
    refine draw0 (m := m + 798) h2 hp (by decide) (by decide +kernel) fun r2 P3 r20 r21 h3 => ?_
    try simp only [okS_bndS, okE_bnd, okE_ok, okS_nx, okS_rt, u_var, u_c, u_bin, u_un, u_nil, u_cons, u_tup, u_lst, chkT0, chkT1, chkT2, chkT3, chkL0, chkL1, chkL2, u_frz, u_cel, u_expr, u_ret, u_ifS, u_set, u_asg, u_asgT, u_asgN, u_nx, u_gName, u_gNilT, u_gConsT, u_gTupT, u_seqI, seqI_lst, seqI_tup, u_rng1, u_rng2, u_for, u_noP, u_part, partI_int, u_slL, slL_lst, u_app, u_callB, u_call, u_yes, u_gAdd, u_gSub, u_gNeg, u_gCmp, u_gMax2, u_gMin2, u_gLenL, ix0L, ix1L, ix2L, ix0T, ix1T, ix2T, u_newD, u_lc, u_and, u_or, u_not, u_ts, u_toB, u_cmp, u_bl, wipe_nil, wipe_cons, List.getElem?_cons_zero, List.getElem?_cons_succ, List.set_cons_succ, List.set_cons_zero, List.map_cons, List.map_nil, List.cons_append, List.nil_append, List.replicate, if_true, List.length_cons, List.length_nil, bnd_ok]
    refine draw0 (m := m + 797) h3 hp (by decide) (by decide +kernel) fun r3 P4 r30 r31 h4 => ?_
    simp only [u_parS, okS_bndS, okE_bnd, okE_ok, okS_nx, okS_rt, u_var, u_c, u_bin, u_un, u_nil, u_cons, u_tup, u_lst, chkT0, chkT1, chkT2, chkT3, chkL0, chkL1, chkL2, u_frz, u_cel, u_expr, u_ret, u_ifS, u_set, u_asg, u_asgT, u_asgN, u_nx, u_gName, u_gNilT, u_gConsT, u_gTupT, u_seqI, seqI_lst, seqI_tup, u_rng1, u_rng2, u_for, u_noP, u_part, partI_int, u_slL, slL_lst, u_app, u_callB, u_call, u_yes, u_gAdd, u_gSub, u_gNeg, u_gCmp, u_gMax2, u_gMin2, u_gLenL, ix0L, ix1L, ix2L, ix0T, ix1T, ix2T, u_newD, u_lc, u_and, u_or, u_not, u_ts, u_toB, u_cmp, u_bl, wipe_nil, wipe_cons, List.getElem?_cons_zero, List.getElem?_cons_succ, List.set_cons_succ, List.set_cons_zero, List.map_cons, List.map_nil, List.cons_append, List.nil_append, List.replicate, if_true, List.length_cons, List.length_nil, bnd_ok]
    have w1 : 1 ≤ 1 + r2 ∧ 1 + r2 ≤ 8 := by omega
    have fw : -20 ≤ r3 - 20 ∧ r3 - 20 ≤ 20 := by omega
    generalize 1 + r2 = w at *
    generalize r3 - 20 = few at *
    have kd0 : ∀ S, gIdx (.tup [.int lo, .int hi, .lst (tris rs)]) (.int 0) S = some (.ok (.int lo), S) := fun _ => ix0T
    have kd1 : ∀ S, gIdx (.tup [.int lo, .int hi, .lst (tris rs)]) (.int 1) S = some (.ok (.int hi), S) := fun _ => ix1T
    have kd2 : ∀ S, gIdx (.tup [.int lo, .int hi, .lst (tris rs)]) (.int 2) S = some (.ok (.lst (tris rs)), S) := fun _ => ix2T
    have cat : ∀ (z : Int) S, gCat (.lst (tris rs)) (.lst [.tup [.int w, .int few, .int z]]) S = some (.ok (tris (rs ++ [⟨w, few, z⟩])), S) := fun z S => by
      rw [u_catL, if_pos (by rw [tris_len, List.length_singleton]; omega)]
      unfold tris
      rw [List.map_append]
      rfl
    try simp only [kd0, kd1, kd2, okS_bndS, okE_bnd, okE_ok, okS_nx, okS_rt, u_var, u_c, u_bin, u_un, u_nil, u_cons, u_tup, u_lst, chkT0, chkT1, chkT2, chkT3, chkL0, chkL1, chkL2, u_frz, u_cel, u_expr, u_ret, u_ifS, u_set, u_asg, u_asgT, u_asgN, u_nx, u_gName, u_gNilT, u_gConsT, u_gTupT, u_seqI, seqI_lst, seqI_tup, u_rng1, u_rng2, u_for, u_noP, u_part, partI_int, u_slL, slL_lst, u_app, u_callB, u_call, u_yes, u_gAdd, u_gSub, u_gNeg, u_gCmp, u_gMax2, u_gMin2, u_gLenL, ix0L, ix1L, ix2L, ix0T, ix1T, ix2T, u_newD, u_lc, u_and, u_or, u_not, u_ts, u_toB, u_cmp, u_bl, wipe_nil, wipe_cons, List.getElem?_cons_zero, List.getElem?_cons_succ, List.set_cons_succ, List.set_cons_zero, List.map_cons, List.map_nil, List.cons_append, List.nil_append, List.replicate, if_true, List.length_cons, List.length_nil, bnd_ok]
    refine draw0 (m := m + 796) h4 hp (by decide) (by decide +kernel) fun r4 P5 r40 r41 h5 => ?_
    simp only [cat, okS_bndS, okE_bnd, okE_ok, okS_nx, okS_rt, u_var, u_c, u_bin, u_un, u_nil, u_cons, u_tup, u_lst, chkT0, chkT1, chkT2, chkT3, chkL0, chkL1, chkL2, u_frz, u_cel, u_expr, u_ret, u_ifS, u_set, u_asg, u_asgT, u_asgN, u_nx, u_gName, u_gNilT, u_gConsT, u_gTupT, u_seqI, seqI_lst, seqI_tup, u_rng1, u_rng2, u_for, u_noP, u_part, partI_int, u_slL, slL_lst, u_app, u_callB, u_call, u_yes, u_gAdd, u_gSub, u_gNeg, u_gCmp, u_gMax2, u_gMin2, u_gLenL, ix0L, ix1L, ix2L, ix0T, ix1T, ix2T, u_newD, u_lc, u_and, u_or, u_not, u_ts, u_toB, u_cmp, u_bl, wipe_nil, wipe_cons, List.getElem?_cons_zero, List.getElem?_cons_succ, List.set_cons_succ, List.set_cons_zero, List.map_cons, List.map_nil, List.cons_append, List.nil_append, List.replicate, if_true, List.length_cons, List.length_nil, bnd_ok]
    have kn : ∀ b, b ∈ rs ++ [(⟨w, few, few + r4⟩ : Bd)] → okR b = true ∧ SmB b ∧ b.w ≤ 40 := fun b hb => by
      rcases List.mem_append.mp hb with hb | hb
      · exact kr b hb
      · rw [List.mem_singleton.mp hb]
        refine ⟨by unfold LW.okR; simp; omega, ⟨sm1000 ?_, sm1000 ?_, sm1000 ?_⟩, ?_⟩
        · show w.natAbs ≤ 1000
          omega
        · show few.natAbs ≤ 1000
          omega
        · show (few + r4).natAbs ≤ 1000
          omega
        · show w ≤ 40
          omega
    have kl' : (rs ++ [(⟨w, few, few + r4⟩ : Bd)]).length ≤ 5 := by rw [List.length_append, List.length_singleton]; omega
    generalize rs ++ [(⟨w, few, few + r4⟩ : Bd)] = rs' at *
    exact sub rs' P5 _ _ (h5.mono (by omega)) kn kl'
  · simp only [gEq_int, Bool.false_xor, decide_eq_false e, Bool.false_eq_true, if_false, okS_bndS, okE_bnd, okE_ok, okS_nx, okS_rt, u_var, u_c, u_bin, u_un, u_nil, u_cons, u_tup, u_lst, chkT0, chkT1, chkT2, chkT3, chkL0, chkL1, chkL2, u_frz, u_cel, u_expr, u_ret, u_ifS, u_set, u_asg, u_asgT, u_asgN, u_nx, u_gName, u_gNilT, u_gConsT, u_gTupT, u_seqI, seqI_lst, seqI_tup, u_rng1, u_rng2, u_for, u_noP, u_part, partI_int, u_slL, slL_lst, u_app, u_callB, u_call, u_yes, u_gAdd, u_gSub, u_gNeg, u_gCmp, u_gMax2, u_gMin2, u_gLenL, ix0L, ix1L, ix2L, ix0T, ix1T, ix2T, u_newD, u_lc, u_and, u_or, u_not, u_ts, u_toB, u_cmp, u_bl, wipe_nil, wipe_cons, List.getElem?_cons_zero, List.getElem?_cons_succ, List.set_cons_succ, List.set_cons_zero, List.map_cons, List.map_nil, List.cons_append, List.nil_append, List.replicate, if_true, List.length_cons, List.length_nil, bnd_ok]
    exact sub rs P2 _ _ (h2.mono (by omega)) kr (by omega)
theorem law_true (ns : List Int) (hl : ns.length ≤ 63) : ∃ S', f_law [.scr ns] [] = some (.ok (.bl true), S') :=
  law_gen (few := 6) (turns := 4) (right := f_Lright) 1000 (by decide) (by decide) (by decide) (fun n m p P h hp => Lright_e h hp fun P' h' => ⟨rfl, h'⟩) ns
end LW

namespace LW
open PySem PySem.Spec PyProof.Rows L2 EV
structure TX (P : Program) (K : PySem.W.Frag) (mg : Str → Option Value) where
  C_Book : Addr
  cl_Book : Cls K C_Book
  mg_Book : mg "Book" = some (.ref C_Book)
  C_SpanError : Addr
  mg_SpanError : mg "SpanError" = some (.ref C_SpanError)
  C_InvalidDays : Addr
  mg_InvalidDays : mg "InvalidDays" = some (.ref C_InvalidDays)
  C_InvalidRule : Addr
  mg_InvalidRule : mg "InvalidRule" = some (.ref C_InvalidRule)
  C_InvalidLength : Addr
  mg_InvalidLength : mg "InvalidLength" = some (.ref C_InvalidLength)
  C_InvalidNumber : Addr
  mg_InvalidNumber : mg "InvalidNumber" = some (.ref C_InvalidNumber)
  C_InvalidKnown : Addr
  mg_InvalidKnown : mg "InvalidKnown" = some (.ref C_InvalidKnown)
  C_InvalidDay : Addr
  mg_InvalidDay : mg "InvalidDay" = some (.ref C_InvalidDay)
  C_NoRows : Addr
  mg_NoRows : mg "NoRows" = some (.ref C_NoRows)
  C_Contradiction : Addr
  mg_Contradiction : mg "Contradiction" = some (.ref C_Contradiction)
  C_TooMany : Addr
  mg_TooMany : mg "TooMany" = some (.ref C_TooMany)
  C_NothingToUndo : Addr
  mg_NothingToUndo : mg "NothingToUndo" = some (.ref C_NothingToUndo)
  C_Unreadable : Addr
  mg_Unreadable : mg "Unreadable" = some (.ref C_Unreadable)
  a_ini : Addr
  cc_ini : Addr
  cd_ini : Addr
  ini : IniF P K a_ini C_SpanError cc_ini cd_ini ⟨"__init__", "SpanError.__init__", defArgs s_SpanError_init, defBody s_SpanError_init, defScope s_SpanError_init, [(("__class__" : Str), cc_ini)], cd_ini⟩
  er_InvalidDays : ErrF K C_InvalidDays C_SpanError a_ini
  er_InvalidRule : ErrF K C_InvalidRule C_SpanError a_ini
  er_InvalidLength : ErrF K C_InvalidLength C_SpanError a_ini
  er_NoRows : ErrF K C_NoRows C_SpanError a_ini
  kt_Lflags_0_NoRows : PySem.W.kitAny K (.ref C_NoRows) [.ref C_Contradiction, .ref C_InvalidDay, .ref C_InvalidDays, .ref C_InvalidKnown, .ref C_InvalidNumber, .ref C_InvalidRule, .ref C_TooMany] = some false
  kt_Lflags_0_InvalidLength : PySem.W.kitAny K (.ref C_InvalidLength) [.ref C_Contradiction, .ref C_InvalidDay, .ref C_InvalidDays, .ref C_InvalidKnown, .ref C_InvalidNumber, .ref C_InvalidRule, .ref C_TooMany] = some false
  kt_Lflags_1_NoRows : PySem.W.kitAny K (.ref C_NoRows) [.ref C_NothingToUndo, .ref C_Unreadable] = some false
  kt_Lflags_1_InvalidLength : PySem.W.kitAny K (.ref C_InvalidLength) [.ref C_NothingToUndo, .ref C_Unreadable] = some false
  kt_Lflags_2_NoRows : PySem.W.kitOne K (.ref C_NoRows) (.type "ValueError") = some true
  kt_Lflags_2_InvalidLength : PySem.W.kitOne K (.ref C_InvalidLength) (.type "ValueError") = some true
  kt_Lflags_3_NoRows : PySem.W.kitOne K (.ref C_NoRows) (.ref C_NoRows) = some true
  kt_Lflags_3_InvalidLength : PySem.W.kitOne K (.ref C_InvalidLength) (.ref C_NoRows) = some false
  kt_Lflags_4_NoRows : PySem.W.kitOne K (.ref C_NoRows) (.ref C_InvalidLength) = some false
  kt_Lflags_4_InvalidLength : PySem.W.kitOne K (.ref C_InvalidLength) (.ref C_InvalidLength) = some true
  no_Book_bounds : NoAttr K C_Book "bounds"
  no_Book_lower : NoAttr K C_Book "lower"
  no_Book_upper : NoAttr K C_Book "upper"
  is_Book : IsC K C_Book
  kit_Book : PySem.W.kitOne K (.ref C_Book) (.ref C_Book) = some true
  a_Lpool : Addr
  d_Lpool : FuncData
  A_Lpool : FnAt K mg "_law_pool" s_Lpool ["script", "spot"] a_Lpool d_Lpool
  a_Ldraw : Addr
  d_Ldraw : FuncData
  A_Ldraw : FnAt K mg "_law_draw" s_Ldraw ["pool", "many"] a_Ldraw d_Ldraw
  a_Lkind : Addr
  d_Lkind : FuncData
  A_Lkind : FnAt K mg "_law_kind" s_Lkind ["pool", "wide", "often"] a_Lkind d_Lkind
  a_Book_eq : Addr
  d_Book_eq : FuncData
  A_Book_eq : MtAt K C_Book "__eq__" "Book.__eq__" s_Book_eq ["self", "other"] a_Book_eq d_Book_eq
  a_is_rule : Addr
  d_is_rule : FuncData
  A_is_rule : FnAt K mg "is_rule" s_is_rule ["rule"] a_is_rule d_is_rule
  a_Book_init : Addr
  d_Book_init : FuncData
  A_Book_init : MtAt K C_Book "__init__" "Book.__init__" s_Book_init ["self", "low", "high", "rules"] a_Book_init d_Book_init
  M_Book : Mk K C_Book a_Book_init
  a_Lmade : Addr
  d_Lmade : FuncData
  A_Lmade : FnAt K mg "_law_made" s_Lmade ["kind"] a_Lmade d_Lmade
  a_Lbounds : Addr
  d_Lbounds : FuncData
  A_Lbounds : FnAt K mg "_law_bounds" s_Lbounds ["kind"] a_Lbounds d_Lbounds
  a_Lconflict : Addr
  d_Lconflict : FuncData
  A_Lconflict : FnAt K mg "_law_conflict" s_Lconflict ["kind"] a_Lconflict d_Lconflict
  a_check_length : Addr
  d_check_length : FuncData
  A_check_length : FnAt K mg "check_length" s_check_length ["length", "least"] a_check_length d_check_length
  a_Book_conflict : Addr
  d_Book_conflict : FuncData
  A_Book_conflict : MtAt K C_Book "conflict" "Book.conflict" s_Book_conflict ["self"] a_Book_conflict d_Book_conflict
  a_check_rows : Addr
  d_check_rows : FuncData
  A_check_rows : FnAt K mg "check_rows" s_check_rows ["book"] a_check_rows d_check_rows
  a_in_lowest_terms : Addr
  d_in_lowest_terms : FuncData
  A_in_lowest_terms : FnAt K mg "in_lowest_terms" s_in_lowest_terms ["top", "bottom"] a_in_lowest_terms d_in_lowest_terms
  a_shares : Addr
  d_shares : FuncData
  A_shares : FnAt K mg "shares" s_shares ["book"] a_shares d_shares
  a_strictest_least : Addr
  d_strictest_least : FuncData
  A_strictest_least : FnAt K mg "strictest_least" s_strictest_least ["book", "width"] a_strictest_least d_strictest_least
  a_Lflags : Addr
  d_Lflags : FuncData
  A_Lflags : FnAt K mg "_law_flags" s_Lflags ["e"] a_Lflags d_Lflags
  a_strictest_most : Addr
  d_strictest_most : FuncData
  A_strictest_most : FnAt K mg "strictest_most" s_strictest_most ["book", "width"] a_strictest_most d_strictest_most
  a_Lcaught : Addr
  d_Lcaught : FuncData
  A_Lcaught : FnAt K mg "_law_caught" s_Lcaught ["which", "made", "size"] a_Lcaught d_Lcaught
  a_Lright : Addr
  d_Lright : FuncData
  A_Lright : FnAt K mg "_law_right" s_Lright ["pool"] a_Lright d_Lright
  a_law : Addr
  d_law : FuncData
  A_law : FnAt K mg "law" s_law ["script"] a_law d_law
  K_strictest_least_1_0 : KB K d_strictest_least ["book", "width"] ["width", "book"] [1, 0]
  K_strictest_most_1_0 : KB K d_strictest_most ["book", "width"] ["width", "book"] [1, 0]
  n_ValueError : mg "ValueError" = none
  n_abs : mg "abs" = none
  n_enumerate : mg "enumerate" = none
  n_int : mg "int" = none
  n_isinstance : mg "isinstance" = none
  n_len : mg "len" = none
  n_list : mg "list" = none
  n_max : mg "max" = none
  n_min : mg "min" = none
  n_range : mg "range" = none
  n_repr : mg "repr" = none
  n_super : mg "super" = none
def clsA {P : Program} (K : PySem.W.Frag) (mg : Str → Option Value) (T : TX P K mg) : Nat → Addr := fun c => if c = 11 then T.C_InvalidDays else if c = 12 then T.C_InvalidRule else if c = 13 then T.C_InvalidLength else if c = 17 then T.C_NoRows else T.C_Book
/-- a book: its bounds; what its sums cost was never asked -/
def SG {P : Program} (K : PySem.W.Frag) (mg : Str → Option Value) (T : TX P K mg) : Sig where
  cls := clsA K mg T
  fname := fnm
  nf := 7
  inj := fnm_inj
  er := fun _ _ _ _ => False
  ermono := fun _ _ _ _ _ _ h => h.elim
  ercut := fun _ _ _ _ _ _ _ _ h => h.elim
  inv := fun t d a o W => t = 0 ∧ D.low 0 d = true ∧ ∃ dx vb, o = .ins T.C_Book dx [("bounds", vb), ("upper", .non), ("lower", .non)] ∧ Rep K W d vb
  mono := fun t d a o W W' le h => by
    obtain ⟨rfl, lw, dx, vb, e, r⟩ := h
    exact ⟨rfl, lw, dx, vb, e, r.mono le⟩
  cut := fun t d a o W W' h1 h2 h => by
    obtain ⟨rfl, lw, dx, vb, e, r⟩ := h
    exact ⟨rfl, lw, dx, vb, e, r.flat lw h1 h2⟩
theorem tags {P : Program} {K : PySem.W.Frag} {mg : Str → Option Value} (T : TX P K mg) : Tags (SG K mg T) K tcs ats where
  ok := fun t c h => by
    have e : t = 0 ∧ c = 0 := by
      unfold tcs at h
      split at h
      · rename_i h0
        exact ⟨h0, (Option.some.inj h).symm⟩
      · cases h
    obtain ⟨rfl, rfl⟩ := e
    refine ⟨fun d a o W hi => ?_⟩
    obtain ⟨_, _, dx, vb, rfl, r⟩ := hi
    refine ⟨dx, _, rfl, fun i d' h => ?_, fun m hm => ?_⟩
    · unfold ats at h
      split at h
      · rename_i h0
        cases h
        subst h0
        exact ⟨vb, by rfl, r⟩
      · cases h
    · have h0 : ¬ m = "bounds" := fun z => hm 0 (show 0 < 7 by decide) z.symm
      have h1 : ¬ m = "upper" := fun z => hm 1 (show 1 < 7 by decide) z.symm
      have h2 : ¬ m = "lower" := fun z => hm 2 (show 2 < 7 by decide) z.symm
      rw [List.lookup, beq_eq_false_iff_ne.mpr h0]
      dsimp only
      rw [List.lookup, beq_eq_false_iff_ne.mpr h1]
      dsimp only
      rw [List.lookup, beq_eq_false_iff_ne.mpr h2]
      rfl
theorem hconv_Book {P : Program} {K : PySem.W.Frag} {mg : Str → Option Value} (T : TX P K mg) : ∀ fs d, conv_Book fs = some d → ∀ W a dx fv, RepN (SG K mg T) K W fs fv → (SG K mg T).inv 0 d a (.ins ((SG K mg T).cls 0) dx fv) W := by
  intro fs d h W a dx fv r
  unfold conv_Book at h
  split at h
  · split at h
    rotate_left
    · cases h
    rename_i lw
    cases h
    cases r with
    | cons h1 r =>
      cases r with
      | cons h2 r =>
        cases r with
        | cons h3 r =>
          cases r
          rename_i b1 b2 b3
          obtain ⟨n1, v1⟩ := b1
          obtain ⟨n2, v2⟩ := b2
          obtain ⟨n3, v3⟩ := b3
          obtain ⟨_, e1, q1⟩ := h1
          obtain ⟨_, e2, q2⟩ := h2
          obtain ⟨_, e3, q3⟩ := h3
          cases q2
          cases q3
          cases e1
          cases e2
          cases e3
          exact ⟨rfl, lw, dx, v1, rfl, q1⟩
  · cases h
end LW
namespace LW
open PySem PySem.Spec PyProof.Rows L2 EV
section
variable {P : Program} {w : World} {K : PySem.W.Frag} {mg : Str → Option Value} {base : Heap}
theorem sc_Lpool : FnScope ["script", "spot", "cell"] ["script", "spot"] (defScope s_Lpool) := ⟨rfl, rfl, rfl, by decide +kernel, rfl, by decide +kernel, by decide +kernel⟩
theorem ok_Lpool (T : TX P K mg) : FG P w K mg base 1 T.a_Lpool T.d_Lpool ["script", "spot"] (spG (SG K mg T) K 2 f_Lpool) := by
  skip
  refine fg_of (N := ["script", "spot", "cell"]) T.A_Lpool.fn sc_Lpool fun cdv A fs s H E hr C => ?_
  exact (gb_cons (gs_set (i := 2) C rfl (by first | exact .inl rfl | exact .inr rfl) ge_int) (gb_cons (gs_if (gt_cmp op_lt ok_cmp (gv 1) (ge_callB call_len_seq k_len (by rfl) T.n_len (by decide +kernel) (ga_cons (gv 0) ga_nil)) (nomark _)) (gb_one (gs_set (i := 2) C rfl (by first | exact .inl rfl | exact .inr rfl) (ge_idx ix_2 ok_idx (gv 0) (gv 1) (fun _ _ => rfl)))) gb_nil) (gb_one (gs_ret (ge_cel (gf_lst (ga_cons (ge_callB (call_max2 C.calm) k_max2 (by rfl) T.n_max (by decide +kernel) (ga_cons ge_int (ga_cons (ge_bin op_sub ok_sub (ge_callB call_abs k_abs (by rfl) T.n_abs (by decide +kernel) (ga_cons (gv 2) ga_nil)) (ge_bin op_powB ok_pow ge_int ge_int)) ga_nil))) (ga_cons (ge_bin op_add ok_add (ge_bin op_mod ok_mod (ge_callTy call_int1 k_int (by rfl) T.n_int (by decide +kernel) (ga_cons (gv 2) ga_nil)) ge_int) (ge_bin op_mulW ok_mul ge_int (ge_bin op_add ok_add (gv 1) ge_int))) (ga_cons ge_int ga_nil)))))))))
theorem sc_Ldraw : FnScope ["pool", "many", "drawn", "mixed"] ["pool", "many"] (defScope s_Ldraw) := ⟨rfl, rfl, rfl, by decide +kernel, rfl, by decide +kernel, by decide +kernel⟩
theorem ok_Ldraw (T : TX P K mg) : FG P w K mg base 1 T.a_Ldraw T.d_Ldraw ["pool", "many"] (spG (SG K mg T) K 2 f_Ldraw) := by
  skip
  refine fg_of (N := ["pool", "many", "drawn", "mixed"]) T.A_Ldraw.fn sc_Ldraw fun cdv A fs s H E hr C => ?_
  exact (gb_cons (gs_if (gt_cmp op_gt ok_cmp (ge_idx ix_2 ok_idx (gv 0) ge_int (fun _ _ => rfl)) ge_int (nomark _)) (gb_cons (gs_set (i := 2) C rfl (by first | exact .inl rfl | exact .inr rfl) (ge_bin op_mod ok_mod (ge_callTy call_int1 k_int (by rfl) T.n_int (by decide +kernel) (ga_cons (ge_idx ix_2 ok_idx (gv 0) ge_int (fun _ _ => rfl)) ga_nil)) (gv 1))) (gb_cons (gs_setIx (gv 0) ge_int (ge_bin op_fdivW ok_div (ge_idx ix_2 ok_idx (gv 0) ge_int (fun _ _ => rfl)) (gv 1))) (gb_one (gs_ret (gv 2))))) gb_nil) (gb_cons (gs_setIx (gv 0) ge_int (ge_bin op_add ok_add (ge_idx ix_2 ok_idx (gv 0) ge_int (fun _ _ => rfl)) ge_int)) (gb_cons (gs_set (i := 3) C rfl (by first | exact .inl rfl | exact .inr rfl) (ge_bin op_mod ok_mod (ge_callTy call_int1 k_int (by rfl) T.n_int (by decide +kernel) (ga_cons (ge_bin op_powB ok_pow (ge_bin op_add ok_add (ge_idx ix_2 ok_idx (gv 0) ge_int (fun _ _ => rfl)) (ge_bin op_mulW ok_mul ge_int (ge_idx ix_2 ok_idx (gv 0) ge_int (fun _ _ => rfl)))) ge_int) ga_nil)) ge_int)) (gb_cons (gs_set (i := 3) C rfl (by first | exact .inl rfl | exact .inr rfl) (ge_bin op_mod ok_mod (ge_callTy call_int1 k_int (by rfl) T.n_int (by decide +kernel) (ga_cons (ge_bin op_powB ok_pow (ge_bin op_add ok_add (gv 3) (ge_bin op_mulW ok_mul ge_int (ge_idx ix_2 ok_idx (gv 0) ge_int (fun _ _ => rfl)))) ge_int) ga_nil)) ge_int)) (gb_one (gs_ret (ge_bin op_mod ok_mod (ge_callTy call_int1 k_int (by rfl) T.n_int (by decide +kernel) (ga_cons (ge_bin op_fdivW ok_div (gv 3) ge_int) ga_nil)) (gv 1))))))))
theorem sc_Lkind : FnScope ["pool", "wide", "often", "bottom_day", "top_day", "under", "lines", "over", "turn", "size", "few", "more"] ["pool", "wide", "often"] (defScope s_Lkind) := ⟨rfl, rfl, rfl, by decide +kernel, rfl, by decide +kernel, by decide +kernel⟩
theorem ok_Lkind (T : TX P K mg) : FG P w K mg base 2 T.a_Lkind T.d_Lkind ["pool", "wide", "often"] (spG (SG K mg T) K 3 f_Lkind) := by
  refine FG.cut ?_
  refine fg_of (N := ["pool", "wide", "often", "bottom_day", "top_day", "under", "lines", "over", "turn", "size", "few", "more"]) T.A_Lkind.fn sc_Lkind fun cdv A fs s H E hr C => ?_
  exact (gb_cons (gs_set (i := 3) C rfl (by first | exact .inl rfl | exact .inr rfl) (ge_idx ix_2 ok_idx (ge_frz (gf_lst (ga_cons ge_int (ga_cons ge_int (ga_cons (ge_bin op_sub ok_sub (ge_bin op_sub ok_sub ge_int ge_int) (ge_call C (ok_Ldraw T) (hr.mono (by decide)) (by rfl) T.A_Ldraw.mg T.A_Ldraw.fn.kp T.A_Ldraw.bd (ga_cons (gv 0) (ga_cons ge_int ga_nil)))) (ga_cons (ge_bin op_sub ok_sub (ge_call C (ok_Ldraw T) (hr.mono (by decide)) (by rfl) T.A_Ldraw.mg T.A_Ldraw.fn.kp T.A_Ldraw.bd (ga_cons (gv 0) (ga_cons ge_int ga_nil))) ge_int) ga_nil)))))) (ge_call C (ok_Ldraw T) (hr.mono (by decide)) (by rfl) T.A_Ldraw.mg T.A_Ldraw.fn.kp T.A_Ldraw.bd (ga_cons (gv 0) (ga_cons ge_int ga_nil))) (fun _ _ => rfl))) (gb_cons (gs_set (i := 4) C rfl (by first | exact .inl rfl | exact .inr rfl) (ge_callB (call_min2 C.calm) k_min2 (by rfl) T.n_min (by decide +kernel) (ga_cons ge_int (ga_cons (ge_bin op_add ok_add (gv 3) (ge_idx ix_2 ok_idx (ge_frz (gf_lst (ga_cons ge_int (ga_cons ge_int (ga_cons (ge_bin op_add ok_add ge_int (ge_call C (ok_Ldraw T) (hr.mono (by decide)) (by rfl) T.A_Ldraw.mg T.A_Ldraw.fn.kp T.A_Ldraw.bd (ga_cons (gv 0) (ga_cons ge_int ga_nil)))) (ga_cons (ge_call C (ok_Ldraw T) (hr.mono (by decide)) (by rfl) T.A_Ldraw.mg T.A_Ldraw.fn.kp T.A_Ldraw.bd (ga_cons (gv 0) (ga_cons ge_int ga_nil))) ga_nil)))))) (ge_call C (ok_Ldraw T) (hr.mono (by decide)) (by rfl) T.A_Ldraw.mg T.A_Ldraw.fn.kp T.A_Ldraw.bd (ga_cons (gv 0) (ga_cons ge_int ga_nil))) (fun _ _ => rfl))) ga_nil)))) (gb_cons (gs_par (i := 5) (j := 6) C rfl rfl (by decide) rfl rfl (ga_cons (ge_bin op_add ok_add ge_int (ge_call C (ok_Ldraw T) (hr.mono (by decide)) (by rfl) T.A_Ldraw.mg T.A_Ldraw.fn.kp T.A_Ldraw.bd (ga_cons (gv 0) (ga_cons ge_int ga_nil)))) (ga_cons (ge_cel (gf_lst ga_nil)) ga_nil)) (by first | rfl | with_unfolding_all rfl | kernel_rfl)) (gb_cons (gs_set (i := 7) C rfl (by first | exact .inl rfl | exact .inr rfl) (ge_bin op_add ok_add (ge_bin op_mulW ok_mul (gv 3) (gv 5)) (ge_call C (ok_Ldraw T) (hr.mono (by decide)) (by rfl) T.A_Ldraw.mg T.A_Ldraw.fn.kp T.A_Ldraw.bd (ga_cons (gv 0) (ga_cons (ge_bin op_add ok_add (ge_bin op_mulW ok_mul (ge_bin op_sub ok_sub (gv 4) (gv 3)) (gv 5)) ge_int) ga_nil))))) (gb_cons (gs_for C (gi_rng1 (by rfl) T.n_range (ga_cons (ge_call C (ok_Ldraw T) (hr.mono (by decide)) (by rfl) T.A_Ldraw.mg T.A_Ldraw.fn.kp T.A_Ldraw.bd (ga_cons (gv 0) (ga_cons (ge_bin op_add ok_add (gv 2) ge_int) ga_nil))) ga_nil)) (gg_name (i := 8) C.nd rfl (by first | exact .inl rfl | exact .inr rfl)) (gb_cons (gs_set (i := 9) C rfl (by first | exact .inl rfl | exact .inr rfl) (ge_bin op_add ok_add ge_int (ge_call C (ok_Ldraw T) (hr.mono (by decide)) (by rfl) T.A_Ldraw.mg T.A_Ldraw.fn.kp T.A_Ldraw.bd (ga_cons (gv 0) (ga_cons (gv 1) ga_nil))))) (gb_cons (gs_set (i := 10) C rfl (by first | exact .inl rfl | exact .inr rfl) (ge_bin op_sub ok_sub (ge_bin op_fdivW ok_div (ge_bin op_mulW ok_mul (gv 9) (gv 7)) (gv 5)) (ge_idx ix_2 ok_idx (ge_frz (gf_lst (ga_cons ge_int (ga_cons ge_int (ga_cons (ge_call C (ok_Ldraw T) (hr.mono (by decide)) (by rfl) T.A_Ldraw.mg T.A_Ldraw.fn.kp T.A_Ldraw.bd (ga_cons (gv 0) (ga_cons ge_int ga_nil))) (ga_cons (ge_call C (ok_Ldraw T) (hr.mono (by decide)) (by rfl) T.A_Ldraw.mg T.A_Ldraw.fn.kp T.A_Ldraw.bd (ga_cons (gv 0) (ga_cons (ge_bin op_mulW ok_mul ge_int (gv 9)) ga_nil))) ga_nil)))))) (ge_call C (ok_Ldraw T) (hr.mono (by decide)) (by rfl) T.A_Ldraw.mg T.A_Ldraw.fn.kp T.A_Ldraw.bd (ga_cons (gv 0) (ga_cons ge_int ga_nil))) (fun _ _ => rfl)))) (gb_cons (gs_set (i := 11) C rfl (by first | exact .inl rfl | exact .inr rfl) (ge_bin op_sub ok_sub ge_int (ge_bin op_fdivW ok_div (ge_bin op_sub ok_sub ge_int (ge_bin op_mulW ok_mul (gv 9) (gv 7))) (gv 5)))) (gb_cons (gs_set (i := 11) C rfl (by first | exact .inl rfl | exact .inr rfl) (ge_bin op_add ok_add (gv 11) (ge_idx ix_2 ok_idx (ge_frz (gf_lst (ga_cons ge_int (ga_cons ge_int (ga_cons (ge_call C (ok_Ldraw T) (hr.mono (by decide)) (by rfl) T.A_Ldraw.mg T.A_Ldraw.fn.kp T.A_Ldraw.bd (ga_cons (gv 0) (ga_cons ge_int ga_nil))) (ga_cons (ge_call C (ok_Ldraw T) (hr.mono (by decide)) (by rfl) T.A_Ldraw.mg T.A_Ldraw.fn.kp T.A_Ldraw.bd (ga_cons (gv 0) (ga_cons (ge_bin op_mulW ok_mul ge_int (gv 9)) ga_nil))) ga_nil)))))) (ge_call C (ok_Ldraw T) (hr.mono (by decide)) (by rfl) T.A_Ldraw.mg T.A_Ldraw.fn.kp T.A_Ldraw.bd (ga_cons (gv 0) (ga_cons ge_int ga_nil))) (fun _ _ => rfl)))) (gb_one (gs_expr (ge_app (gv 6) (ge_tup (ga_cons (gv 9) (ga_cons (ge_callB (call_max2 C.calm) k_max2 (by rfl) T.n_max (by decide +kernel) (ga_cons (ge_un un_neg ok_neg ge_int) (ga_cons (gv 10) ga_nil))) (ga_cons (ge_callB (call_min2 C.calm) k_min2 (by rfl) T.n_min (by decide +kernel) (ga_cons ge_int (ga_cons (gv 11) ga_nil))) ga_nil)))))))))))) (gb_one (gs_ret (ge_tup (ga_cons (gv 3) (ga_cons (gv 4) (ga_cons (gvF 6) ga_nil)))))))))))
theorem sc_Book_eq : FnScope ["self", "other"] ["self", "other"] (defScope s_Book_eq) := ⟨rfl, rfl, rfl, by decide +kernel, rfl, by decide +kernel, by decide +kernel⟩
theorem ok_Book_eq (T : TX P K mg) : FG P w K mg base 1 T.a_Book_eq T.d_Book_eq ["self", "other"] (spG (SG K mg T) K 2 f_Book_eq) := by
  skip
  refine fg_of (N := ["self", "other"]) T.A_Book_eq.fn sc_Book_eq fun cdv A fs s H E hr C => ?_
  exact (gb_one (gs_ret (ge_and (ge_blv (ge_isi (tags T) (by rfl) T.n_isinstance (gv 1) (by rfl) T.mg_Book T.is_Book T.kit_Book)) (ge_one (ge_cmp (op_eqX C.eqU) ok_eq (ge_fld (fname := "bounds") (tags T) (by rfl) (show 0 < 7 by decide) T.cl_Book T.no_Book_bounds (gv 0) rfl) (ge_fld (fname := "bounds") (tags T) (by rfl) (show 0 < 7 by decide) T.cl_Book T.no_Book_bounds (gv 1) rfl) (nomark _))))))
theorem sc_is_rule : FnScope ["rule", "width", "least", "most"] ["rule"] (defScope s_is_rule) := ⟨rfl, rfl, rfl, by decide +kernel, rfl, by decide +kernel, by decide +kernel⟩
theorem ok_is_rule (T : TX P K mg) : FG P w K mg base 1 T.a_is_rule T.d_is_rule ["rule"] (spG (SG K mg T) K 1 f_is_rule) := by
  skip
  refine fg_of (N := ["rule", "width", "least", "most"]) T.A_is_rule.fn sc_is_rule fun cdv A fs s H E hr C => ?_
  exact (gb_cons (gs_asg (gv 0) (gg_tup C.calm (ggs_cons (gg_name (i := 1) C.nd rfl (by first | exact .inl rfl | exact .inr rfl)) (ggs_cons (gg_name (i := 2) C.nd rfl (by first | exact .inl rfl | exact .inr rfl)) (ggs_cons (gg_name (i := 3) C.nd rfl (by first | exact .inl rfl | exact .inr rfl)) ggs_nil))))) (gb_one (gs_ret (ge_and (ge_cmp op_ge ok_cmp (gv 1) ge_int (nomark _)) (ge_one (ge_cmp op_le ok_cmp (gv 2) (gv 3) (nomark _)))))))
theorem sc_Book_init : FnScope ["self", "low", "high", "rules", "number", "rule"] ["self", "low", "high", "rules"] (defScope s_Book_init) := ⟨rfl, rfl, rfl, by decide +kernel, rfl, by decide +kernel, by decide +kernel⟩
theorem ok_Book_init (T : TX P K mg) : FG P w K mg base 2 T.a_Book_init T.d_Book_init ["self", "low", "high", "rules"] (spG (SG K mg T) K 4 f_Book_init) := by
  skip
  refine fg_of (N := ["self", "low", "high", "rules", "number", "rule"]) T.A_Book_init.fn sc_Book_init fun cdv A fs s H E hr C => ?_
  exact (gb_cons (gs_if (gt_cmp op_gt ok_cmp (gv 1) (gv 2) (nomark _)) (gb_one (gs_raiseI (c := 11) (k := 0) C T.er_InvalidDays (ini_ok T.ini T.n_super) (hr.mono (by decide)) (by rfl) T.mg_InvalidDays (ga_cons (ge_tup (ga_cons (gv 1) (ga_cons (gv 2) ga_nil))) ga_nil))) gb_nil) (gb_cons (gs_for C (gi_enum (by rfl) T.n_enumerate (ga_cons (gv 3) ga_nil)) (gg_tup C.calm (ggs_cons (gg_name (i := 4) C.nd rfl (by first | exact .inl rfl | exact .inr rfl)) (ggs_cons (gg_name (i := 5) C.nd rfl (by first | exact .inl rfl | exact .inr rfl)) ggs_nil))) (gb_one (gs_if (gt_not (gt_val (ge_call C (ok_is_rule T) (hr.mono (by decide)) (by rfl) T.A_is_rule.mg T.A_is_rule.fn.kp T.A_is_rule.bd (ga_cons (gv 5) ga_nil)))) (gb_one (gs_raiseI (c := 12) (k := 0) C T.er_InvalidRule (ini_ok T.ini T.n_super) (hr.mono (by decide)) (by rfl) T.mg_InvalidRule (ga_cons (gv 4) ga_nil))) gb_nil))) (gb_cons (gs_fld (c := 0) (fname := "bounds") (by rfl) (show 0 < 7 by decide) T.cl_Book T.no_Book_bounds (gv 0) (ge_tup (ga_cons (ge_tup (ga_cons ge_int (ga_cons (gv 1) (ga_cons (gv 2) ga_nil)))) (ga_star (gv 3) ga_nil))) rfl) (gb_cons (gs_fld (c := 0) (fname := "upper") (by rfl) (show 1 < 7 by decide) T.cl_Book T.no_Book_upper (gv 0) ge_non rfl) (gb_one (gs_fld (c := 0) (fname := "lower") (by rfl) (show 2 < 7 by decide) T.cl_Book T.no_Book_lower (gv 0) ge_non rfl))))))
theorem sc_Lmade : FnScope ["kind"] ["kind"] (defScope s_Lmade) := ⟨rfl, rfl, rfl, by decide +kernel, rfl, by decide +kernel, by decide +kernel⟩
theorem ok_Lmade (T : TX P K mg) : FG P w K mg base 4 T.a_Lmade T.d_Lmade ["kind"] (spG (SG K mg T) K 1 f_Lmade) := by
  skip
  refine fg_of (N := ["kind"]) T.A_Lmade.fn sc_Lmade fun cdv A fs s H E hr C => ?_
  exact (gb_one (gs_ret (ge_mkO (conv := conv_Book) (hconv_Book T) C T.M_Book (ok_Book_init T) (hr.mono (by decide)) (by rfl) T.mg_Book T.A_Book_init.bd (ga_cons (ge_idx ix_2 ok_idx (gv 0) ge_int (fun _ _ => rfl)) (ga_cons (ge_idx ix_2 ok_idx (gv 0) ge_int (fun _ _ => rfl)) (ga_cons (ge_frz (gf_callTy call_list_of k_list (by rfl) T.n_list (by decide +kernel) (ga_cons (ge_idx ix_2 ok_idx (gv 0) ge_int (fun _ _ => rfl)) ga_nil))) ga_nil))))))
theorem sc_Lbounds : FnScope ["kind"] ["kind"] (defScope s_Lbounds) := ⟨rfl, rfl, rfl, by decide +kernel, rfl, by decide +kernel, by decide +kernel⟩
theorem ok_Lbounds (T : TX P K mg) : FG P w K mg base 1 T.a_Lbounds T.d_Lbounds ["kind"] (spG (SG K mg T) K 1 f_Lbounds) := by
  skip
  refine fg_of (N := ["kind"]) T.A_Lbounds.fn sc_Lbounds fun cdv A fs s H E hr C => ?_
  exact (gb_one (gs_ret (ge_frz (gf_bin op_cat ok_cat (ge_frz (gf_lst (ga_cons (ge_tup (ga_cons ge_int (ga_cons (ge_idx ix_2 ok_idx (gv 0) ge_int (fun _ _ => rfl)) (ga_cons (ge_idx ix_2 ok_idx (gv 0) ge_int (fun _ _ => rfl)) ga_nil)))) ga_nil))) (ge_frz (gf_callTy call_list_of k_list (by rfl) T.n_list (by decide +kernel) (ga_cons (ge_idx ix_2 ok_idx (gv 0) ge_int (fun _ _ => rfl)) ga_nil)))))))
theorem sc_Lconflict : FnScope ["kind", "bounds", "spot", "one", "at", "two"] ["kind"] (defScope s_Lconflict) := ⟨rfl, rfl, rfl, by decide +kernel, rfl, by decide +kernel, by decide +kernel⟩
theorem ok_Lconflict (T : TX P K mg) : FG P w K mg base 2 T.a_Lconflict T.d_Lconflict ["kind"] (spG (SG K mg T) K 1 f_Lconflict) := by
  skip
  refine fg_of (N := ["kind", "bounds", "spot", "one", "at", "two"]) T.A_Lconflict.fn sc_Lconflict fun cdv A fs s H E hr C => ?_
  exact (gb_cons (gs_set (i := 1) C rfl (by first | exact .inl rfl | exact .inr rfl) (ge_call C (ok_Lbounds T) (hr.mono (by decide)) (by rfl) T.A_Lbounds.mg T.A_Lbounds.fn.kp T.A_Lbounds.bd (ga_cons (gv 0) ga_nil))) (gb_cons (gs_for C (gi_enum (by rfl) T.n_enumerate (ga_cons (gv 1) ga_nil)) (gg_tup C.calm (ggs_cons (gg_name (i := 2) C.nd rfl (by first | exact .inl rfl | exact .inr rfl)) (ggs_cons (gg_name (i := 3) C.nd rfl (by first | exact .inl rfl | exact .inr rfl)) ggs_nil))) (gb_one (gs_for C (gi_enum (by rfl) T.n_enumerate (ga_cons (gv 1) ga_nil)) (gg_tup C.calm (ggs_cons (gg_name (i := 4) C.nd rfl (by first | exact .inl rfl | exact .inr rfl)) (ggs_cons (gg_name (i := 5) C.nd rfl (by first | exact .inl rfl | exact .inr rfl)) ggs_nil))) (gb_one (gs_if (gt_cmp op_gt ok_cmp (ge_bin op_mulW ok_mul (ge_idx ix_2 ok_idx (gv 3) ge_int (fun _ _ => rfl)) (ge_idx ix_2 ok_idx (gv 5) ge_int (fun _ _ => rfl))) (ge_bin op_mulW ok_mul (ge_idx ix_2 ok_idx (gv 5) ge_int (fun _ _ => rfl)) (ge_idx ix_2 ok_idx (gv 3) ge_int (fun _ _ => rfl))) (nomark _)) (gb_one (gs_ret (ge_frz (gf_lst (ga_cons (ge_tup (ga_cons (gv 2) (ga_cons (gv 4) ga_nil))) ga_nil))))) gb_nil))))) (gb_one (gs_ret (ge_frz (gf_lst ga_nil))))))
theorem sc_check_length : FnScope ["length", "least"] ["length", "least"] (defScope s_check_length) := ⟨rfl, rfl, rfl, by decide +kernel, rfl, by decide +kernel, by decide +kernel⟩
theorem ok_check_length (T : TX P K mg) : FG P w K mg base 2 T.a_check_length T.d_check_length ["length", "least"] (spG (SG K mg T) K 2 f_check_length) := by
  skip
  refine fg_of (N := ["length", "least"]) T.A_check_length.fn sc_check_length fun cdv A fs s H E hr C => ?_
  exact (gb_one (gs_if (gt_cmp op_lt ok_cmp (gv 0) (gv 1) (nomark _)) (gb_one (gs_raiseI (c := 13) (k := 0) C T.er_InvalidLength (ini_ok T.ini T.n_super) (hr.mono (by decide)) (by rfl) T.mg_InvalidLength (ga_cons (gv 0) ga_nil))) gb_nil))
theorem sc_Book_conflict : FnScope ["self", "index", "width", "least", "most", "other", "other_width", "other_least", "other_most"] ["self"] (defScope s_Book_conflict) := ⟨rfl, rfl, rfl, by decide +kernel, rfl, by decide +kernel, by decide +kernel⟩
theorem ok_Book_conflict (T : TX P K mg) : FG P w K mg base 1 T.a_Book_conflict T.d_Book_conflict ["self"] (spG (SG K mg T) K 1 f_Book_conflict) := by
  skip
  refine fg_of (N := ["self", "index", "width", "least", "most", "other", "other_width", "other_least", "other_most"]) T.A_Book_conflict.fn sc_Book_conflict fun cdv A fs s H E hr C => ?_
  exact (gb_cons (gs_for C (gi_enum (by rfl) T.n_enumerate (ga_cons (ge_fld (fname := "bounds") (tags T) (by rfl) (show 0 < 7 by decide) T.cl_Book T.no_Book_bounds (gv 0) rfl) ga_nil)) (gg_tup C.calm (ggs_cons (gg_name (i := 1) C.nd rfl (by first | exact .inl rfl | exact .inr rfl)) (ggs_cons (gg_tup C.calm (ggs_cons (gg_name (i := 2) C.nd rfl (by first | exact .inl rfl | exact .inr rfl)) (ggs_cons (gg_name (i := 3) C.nd rfl (by first | exact .inl rfl | exact .inr rfl)) (ggs_cons (gg_name (i := 4) C.nd rfl (by first | exact .inl rfl | exact .inr rfl)) ggs_nil)))) ggs_nil))) (gb_one (gs_for C (gi_enum (by rfl) T.n_enumerate (ga_cons (ge_fld (fname := "bounds") (tags T) (by rfl) (show 0 < 7 by decide) T.cl_Book T.no_Book_bounds (gv 0) rfl) ga_nil)) (gg_tup C.calm (ggs_cons (gg_name (i := 5) C.nd rfl (by first | exact .inl rfl | exact .inr rfl)) (ggs_cons (gg_tup C.calm (ggs_cons (gg_name (i := 6) C.nd rfl (by first | exact .inl rfl | exact .inr rfl)) (ggs_cons (gg_name (i := 7) C.nd rfl (by first | exact .inl rfl | exact .inr rfl)) (ggs_cons (gg_name (i := 8) C.nd rfl (by first | exact .inl rfl | exact .inr rfl)) ggs_nil)))) ggs_nil))) (gb_one (gs_if (gt_cmp op_gt ok_cmp (ge_bin op_mulW ok_mul (gv 3) (gv 6)) (ge_bin op_mulW ok_mul (gv 8) (gv 2)) (nomark _)) (gb_one (gs_ret (ge_tup (ga_cons (gv 1) (ga_cons (gv 5) ga_nil))))) gb_nil))))) (gb_one (gs_ret ge_non)))
theorem sc_check_rows : FnScope ["book", "found"] ["book"] (defScope s_check_rows) := ⟨rfl, rfl, rfl, by decide +kernel, rfl, by decide +kernel, by decide +kernel⟩
theorem ok_check_rows (T : TX P K mg) : FG P w K mg base 2 T.a_check_rows T.d_check_rows ["book"] (spG (SG K mg T) K 1 f_check_rows) := by
  skip
  refine fg_of (N := ["book", "found"]) T.A_check_rows.fn sc_check_rows fun cdv A fs s H E hr C => ?_
  exact (gb_cons (gs_set (i := 1) C rfl (by first | exact .inl rfl | exact .inr rfl) (ge_meth0 C (tags T) (gv 0) T.cl_Book T.A_Book_conflict.mt nofld_conflict (ok_Book_conflict T) (hr.mono (by decide)) T.A_Book_conflict.bd)) (gb_one (gs_if (gt_cmp op_notN ok_notN (gv 1) ge_non (nomark _)) (gb_one (gs_raiseI (c := 17) (k := 0) C T.er_NoRows (ini_ok T.ini T.n_super) (hr.mono (by decide)) (by rfl) T.mg_NoRows (ga_cons (gv 1) ga_nil))) gb_nil)))
theorem sc_in_lowest_terms : FnScope ["top", "bottom", "one", "other"] ["top", "bottom"] (defScope s_in_lowest_terms) := ⟨rfl, rfl, rfl, by decide +kernel, rfl, by decide +kernel, by decide +kernel⟩
theorem ok_in_lowest_terms (T : TX P K mg) : FG P w K mg base 1 T.a_in_lowest_terms T.d_in_lowest_terms ["top", "bottom"] (spG (SG K mg T) K 2 f_in_lowest_terms) := by
  skip
  refine fg_of (N := ["top", "bottom", "one", "other"]) T.A_in_lowest_terms.fn sc_in_lowest_terms fun cdv A fs s H E hr C => ?_
  exact (gb_cons (gs_par (i := 2) (j := 3) C rfl rfl (by decide) rfl rfl (ga_cons (ge_callB call_abs k_abs (by rfl) T.n_abs (by decide +kernel) (ga_cons (gv 0) ga_nil)) (ga_cons (gv 1) ga_nil)) (by first | rfl | with_unfolding_all rfl | kernel_rfl)) (gb_cons (gs_while (fun ρ _ => slotN 3 ρ + 1) C (gt_cmp (op_neX C.eqU) ok_ne (gv 3) ge_int (nomark _)) (gb_one (gs_par (i := 2) (j := 3) C rfl rfl (by decide) rfl rfl (ga_cons (gv 3) (ga_cons (ge_bin op_mod ok_mod (gv 2) (gv 3)) ga_nil)) (by first | rfl | with_unfolding_all rfl | kernel_rfl)))) (gb_one (gs_ret (ge_tup (ga_cons (ge_bin op_fdivW ok_div (gv 0) (gv 2)) (ga_cons (ge_bin op_fdivW ok_div (gv 1) (gv 2)) ga_nil)))))))
theorem sc_shares : FnScope ["book", "lower", "upper", "bound"] ["book"] (defScope s_shares) := ⟨rfl, rfl, rfl, by decide +kernel, rfl, by decide +kernel, by decide +kernel⟩
theorem ok_shares (T : TX P K mg) : FG P w K mg base 3 T.a_shares T.d_shares ["book"] (spG (SG K mg T) K 1 f_shares) := by
  skip
  refine fg_of (N := ["book", "lower", "upper", "bound"]) T.A_shares.fn sc_shares fun cdv A fs s H E hr C => ?_
  exact (gb_cons (gs_expr (ge_call C (ok_check_rows T) (hr.mono (by decide)) (by rfl) T.A_check_rows.mg T.A_check_rows.fn.kp T.A_check_rows.bd (ga_cons (gv 0) ga_nil))) (gb_cons (gs_asg2 (ge_idx ix_2 ok_idx (ge_fld (fname := "bounds") (tags T) (by rfl) (show 0 < 7 by decide) T.cl_Book T.no_Book_bounds (gv 0) rfl) ge_int (fun _ _ => rfl)) (gg_name (i := 1) C.nd rfl (by first | exact .inl rfl | exact .inr rfl)) (gg_name (i := 2) C.nd rfl (by first | exact .inl rfl | exact .inr rfl))) (gb_cons (gs_for C (gi_seq (ge_fld (fname := "bounds") (tags T) (by rfl) (show 0 < 7 by decide) T.cl_Book T.no_Book_bounds (gv 0) rfl)) (gg_name (i := 3) C.nd rfl (by first | exact .inl rfl | exact .inr rfl)) (gb_cons (gs_if (gt_cmp op_gt ok_cmp (ge_bin op_mulW ok_mul (ge_idx ix_2 ok_idx (gv 3) ge_int (fun _ _ => rfl)) (ge_idx ix_2 ok_idx (gv 1) ge_int (fun _ _ => rfl))) (ge_bin op_mulW ok_mul (ge_idx ix_2 ok_idx (gv 1) ge_int (fun _ _ => rfl)) (ge_idx ix_2 ok_idx (gv 3) ge_int (fun _ _ => rfl))) (nomark _)) (gb_one (gs_set (i := 1) C rfl (by first | exact .inl rfl | exact .inr rfl) (gv 3))) gb_nil) (gb_one (gs_if (gt_cmp op_lt ok_cmp (ge_bin op_mulW ok_mul (ge_idx ix_2 ok_idx (gv 3) ge_int (fun _ _ => rfl)) (ge_idx ix_2 ok_idx (gv 2) ge_int (fun _ _ => rfl))) (ge_bin op_mulW ok_mul (ge_idx ix_2 ok_idx (gv 2) ge_int (fun _ _ => rfl)) (ge_idx ix_2 ok_idx (gv 3) ge_int (fun _ _ => rfl))) (nomark _)) (gb_one (gs_set (i := 2) C rfl (by first | exact .inl rfl | exact .inr rfl) (gv 3))) gb_nil)))) (gb_one (gs_ret (ge_tup (ga_cons (ge_call C (ok_in_lowest_terms T) (hr.mono (by decide)) (by rfl) T.A_in_lowest_terms.mg T.A_in_lowest_terms.fn.kp T.A_in_lowest_terms.bd (ga_cons (ge_idx ix_2 ok_idx (gv 1) ge_int (fun _ _ => rfl)) (ga_cons (ge_idx ix_2 ok_idx (gv 1) ge_int (fun _ _ => rfl)) ga_nil))) (ga_cons (ge_call C (ok_in_lowest_terms T) (hr.mono (by decide)) (by rfl) T.A_in_lowest_terms.mg T.A_in_lowest_terms.fn.kp T.A_in_lowest_terms.bd (ga_cons (ge_idx ix_2 ok_idx (gv 2) ge_int (fun _ _ => rfl)) (ga_cons (ge_idx ix_2 ok_idx (gv 2) ge_int (fun _ _ => rfl)) ga_nil))) ga_nil))))))))
theorem sc_strictest_least : FnScope ["book", "width", "top", "bottom"] ["book", "width"] (defScope s_strictest_least) := ⟨rfl, rfl, rfl, by decide +kernel, rfl, by decide +kernel, by decide +kernel⟩
theorem ok_strictest_least (T : TX P K mg) : FG P w K mg base 4 T.a_strictest_least T.d_strictest_least ["book", "width"] (spG (SG K mg T) K 2 f_strictest_least) := by
  skip
  refine fg_of (N := ["book", "width", "top", "bottom"]) T.A_strictest_least.fn sc_strictest_least fun cdv A fs s H E hr C => ?_
  exact (gb_cons (gs_asg (ge_idx ix_2 ok_idx (ge_call C (ok_shares T) (hr.mono (by decide)) (by rfl) T.A_shares.mg T.A_shares.fn.kp T.A_shares.bd (ga_cons (gv 0) ga_nil)) ge_int (fun _ _ => rfl)) (gg_tup C.calm (ggs_cons (gg_name (i := 2) C.nd rfl (by first | exact .inl rfl | exact .inr rfl)) (ggs_cons (gg_name (i := 3) C.nd rfl (by first | exact .inl rfl | exact .inr rfl)) ggs_nil)))) (gb_cons (gs_expr (ge_call C (ok_check_length T) (hr.mono (by decide)) (by rfl) T.A_check_length.mg T.A_check_length.fn.kp T.A_check_length.bd (ga_cons (gv 1) (ga_cons ge_int ga_nil)))) (gb_one (gs_ret (ge_bin op_fdivW ok_div (ge_bin op_mulW ok_mul (gv 1) (gv 2)) (gv 3))))))
theorem ex_Lflags (T : TX P K mg) : ∀ k, okL [17, 13] k = true → PySem.W.exmOne K (.ref ((SG K mg T).cls k)) (.ref T.C_SpanError) = some true := by
  intro k hk
  have hk2 := okL_mem hk
  simp only [List.mem_cons, List.not_mem_nil, or_false] at hk2
  rcases hk2 with rfl | rfl
  · exact T.er_NoRows.ex
  · exact T.er_InvalidLength.ex
theorem eq_Lflags (T : TX P K mg) : ∀ k, okL [17, 13] k = true → ErrC K ((SG K mg T).cls k) := by
  intro k hk
  have hk2 := okL_mem hk
  simp only [List.mem_cons, List.not_mem_nil, or_false] at hk2
  rcases hk2 with rfl | rfl
  · exact T.er_NoRows.q
  · exact T.er_InvalidLength.q
theorem kt_Lflags_0 (T : TX P K mg) : ∀ k, okL [17, 13] k = true → PySem.W.kitAny K (.ref ((SG K mg T).cls k)) (List.map Value.ref [T.C_Contradiction, T.C_InvalidDay, T.C_InvalidDays, T.C_InvalidKnown, T.C_InvalidNumber, T.C_InvalidRule, T.C_TooMany]) = some (okL [] k) := by
  intro k hk
  have hk2 := okL_mem hk
  simp only [List.mem_cons, List.not_mem_nil, or_false] at hk2
  rcases hk2 with rfl | rfl
  · exact T.kt_Lflags_0_NoRows
  · exact T.kt_Lflags_0_InvalidLength
theorem kt_Lflags_1 (T : TX P K mg) : ∀ k, okL [17, 13] k = true → PySem.W.kitAny K (.ref ((SG K mg T).cls k)) (List.map Value.ref [T.C_NothingToUndo, T.C_Unreadable]) = some (okL [] k) := by
  intro k hk
  have hk2 := okL_mem hk
  simp only [List.mem_cons, List.not_mem_nil, or_false] at hk2
  rcases hk2 with rfl | rfl
  · exact T.kt_Lflags_1_NoRows
  · exact T.kt_Lflags_1_InvalidLength
theorem kt_Lflags_2 (T : TX P K mg) : ∀ k, okL [17, 13] k = true → PySem.W.kitOne K (.ref ((SG K mg T).cls k)) (.type "ValueError") = some (okL [17, 13] k) := by
  intro k hk
  have hk2 := okL_mem hk
  simp only [List.mem_cons, List.not_mem_nil, or_false] at hk2
  rcases hk2 with rfl | rfl
  · exact T.kt_Lflags_2_NoRows
  · exact T.kt_Lflags_2_InvalidLength
theorem kt_Lflags_3 (T : TX P K mg) : ∀ k, okL [17, 13] k = true → PySem.W.kitOne K (.ref ((SG K mg T).cls k)) (.ref T.C_NoRows) = some (okL [17] k) := by
  intro k hk
  have hk2 := okL_mem hk
  simp only [List.mem_cons, List.not_mem_nil, or_false] at hk2
  rcases hk2 with rfl | rfl
  · exact T.kt_Lflags_3_NoRows
  · exact T.kt_Lflags_3_InvalidLength
theorem kt_Lflags_4 (T : TX P K mg) : ∀ k, okL [17, 13] k = true → PySem.W.kitOne K (.ref ((SG K mg T).cls k)) (.ref T.C_InvalidLength) = some (okL [13] k) := by
  intro k hk
  have hk2 := okL_mem hk
  simp only [List.mem_cons, List.not_mem_nil, or_false] at hk2
  rcases hk2 with rfl | rfl
  · exact T.kt_Lflags_4_NoRows
  · exact T.kt_Lflags_4_InvalidLength
theorem sc_Lflags : FnScope ["e", "odd"] ["e"] (defScope s_Lflags) := ⟨rfl, rfl, rfl, by decide +kernel, rfl, by decide +kernel, by decide +kernel⟩
theorem ok_Lflags (T : TX P K mg) {a dd : Addr} {ec : Nat} {ed : EV.D} {oe : Obj} (he : okL [17, 13] ec = true) (hz : Zc (.ref ((SG K mg T).cls ec)) (some dd) oe) (hf : ∃ vs, oe.data = .fields vs) : FGH P w K mg base 1 T.a_Lflags T.d_Lflags ["e"] (spG (sigE (SG K mg T) K a dd ec ed) K 1 f_Lflags) (a, oe) := by
  skip
  refine fgH_of (N := ["e", "odd"]) T.A_Lflags.fn sc_Lflags fun cdv A fs s H E C => ?_
  exact (gb_cons (gs_setN (i := 1) C.nd rfl (by first | exact .inl rfl | exact .inr rfl) (ge_isTP (i := 0) List.mem_cons_self (eq_Lflags T _ he) hz hf (by rfl) T.n_isinstance rfl (by first | exact Or.inl rfl | exact Or.inr (Or.inl rfl) | exact Or.inr (Or.inr rfl)) (pa_vcons (pe_glob (v := .ref T.C_Contradiction) (by rfl) T.mg_Contradiction rfl) (pa_vcons (pe_glob (v := .ref T.C_InvalidDay) (by rfl) T.mg_InvalidDay rfl) (pa_vcons (pe_glob (v := .ref T.C_InvalidDays) (by rfl) T.mg_InvalidDays rfl) (pa_vcons (pe_glob (v := .ref T.C_InvalidKnown) (by rfl) T.mg_InvalidKnown rfl) (pa_vcons (pe_glob (v := .ref T.C_InvalidNumber) (by rfl) T.mg_InvalidNumber rfl) (pa_vcons (pe_glob (v := .ref T.C_InvalidRule) (by rfl) T.mg_InvalidRule rfl) (pa_vcons (pe_glob (v := .ref T.C_TooMany) (by rfl) T.mg_TooMany rfl) pa_vnil))))))) (by show 7 ≤ 1000; decide) (fun us r => refs_at (ps := [T.C_Contradiction, T.C_InvalidDay, T.C_InvalidDays, T.C_InvalidKnown, T.C_InvalidNumber, T.C_InvalidRule, T.C_TooMany]) r) (kt_Lflags_0 T _ he))) (gb_cons (gs_setN (i := 1) C.nd rfl (by first | exact .inl rfl | exact .inr rfl) (ge_or (ge_blv (gv 1)) (ge_or (ge_blv (ge_isTP (i := 0) List.mem_cons_self (eq_Lflags T _ he) hz hf (by rfl) T.n_isinstance rfl (by first | exact Or.inl rfl | exact Or.inr (Or.inl rfl) | exact Or.inr (Or.inr rfl)) (pa_vcons (pe_glob (v := .ref T.C_NothingToUndo) (by rfl) T.mg_NothingToUndo rfl) (pa_vcons (pe_glob (v := .ref T.C_Unreadable) (by rfl) T.mg_Unreadable rfl) pa_vnil)) (by show 2 ≤ 1000; decide) (fun us r => refs_at (ps := [T.C_NothingToUndo, T.C_Unreadable]) r) (kt_Lflags_1 T _ he))) (ge_one (ge_not (ge_blv (ge_isEP (i := 0) List.mem_cons_self (eq_Lflags T _ he) hz hf (by rfl) T.n_isinstance rfl (by first | exact Or.inl rfl | exact Or.inr (Or.inl rfl) | exact Or.inr (Or.inr rfl)) (pe_bltn (v := .ty "ValueError") (by rfl) T.n_ValueError (by decide +kernel) rfl) (fun u r => r) (kt_Lflags_2 T _ he)))))))) (gb_one (gs_ret (ge_frz (gf_lst (ga_cons (ge_if (gt_val (gv 1)) ge_str (ge_bin op_add_str ok_addS (ge_bin op_mulS ok_mulS ge_str (ge_callTy call_int1 k_int (by rfl) T.n_int (by decide +kernel) (ga_cons (ge_isEP (i := 0) List.mem_cons_self (eq_Lflags T _ he) hz hf (by rfl) T.n_isinstance rfl (by first | exact Or.inl rfl | exact Or.inr (Or.inl rfl) | exact Or.inr (Or.inr rfl)) (pe_glob (v := .ref T.C_NoRows) (by rfl) T.mg_NoRows rfl) (fun u r => r) (kt_Lflags_3 T _ he)) ga_nil))) (ge_bin op_mulS ok_mulS ge_str (ge_callTy call_int1 k_int (by rfl) T.n_int (by decide +kernel) (ga_cons (ge_isEP (i := 0) List.mem_cons_self (eq_Lflags T _ he) hz hf (by rfl) T.n_isinstance rfl (by first | exact Or.inl rfl | exact Or.inr (Or.inl rfl) | exact Or.inr (Or.inr rfl)) (pe_glob (v := .ref T.C_InvalidLength) (by rfl) T.mg_InvalidLength rfl) (fun u r => r) (kt_Lflags_4 T _ he)) ga_nil))))) (ga_cons (ge_errvP (i := 0) List.mem_cons_self (eq_Lflags T _ he) hz hf rfl (by first | exact Or.inl rfl | exact Or.inr (Or.inl rfl) | exact Or.inr (Or.inr rfl))) ga_nil))))))))
theorem sc_strictest_most : FnScope ["book", "width", "top", "bottom"] ["book", "width"] (defScope s_strictest_most) := ⟨rfl, rfl, rfl, by decide +kernel, rfl, by decide +kernel, by decide +kernel⟩
theorem ok_strictest_most (T : TX P K mg) : FG P w K mg base 4 T.a_strictest_most T.d_strictest_most ["book", "width"] (spG (SG K mg T) K 2 f_strictest_most) := by
  skip
  refine fg_of (N := ["book", "width", "top", "bottom"]) T.A_strictest_most.fn sc_strictest_most fun cdv A fs s H E hr C => ?_
  exact (gb_cons (gs_asg (ge_idx ix_2 ok_idx (ge_call C (ok_shares T) (hr.mono (by decide)) (by rfl) T.A_shares.mg T.A_shares.fn.kp T.A_shares.bd (ga_cons (gv 0) ga_nil)) ge_int (fun _ _ => rfl)) (gg_tup C.calm (ggs_cons (gg_name (i := 2) C.nd rfl (by first | exact .inl rfl | exact .inr rfl)) (ggs_cons (gg_name (i := 3) C.nd rfl (by first | exact .inl rfl | exact .inr rfl)) ggs_nil)))) (gb_cons (gs_expr (ge_call C (ok_check_length T) (hr.mono (by decide)) (by rfl) T.A_check_length.mg T.A_check_length.fn.kp T.A_check_length.bd (ga_cons (gv 1) (ga_cons ge_int ga_nil)))) (gb_one (gs_ret (ge_un un_neg ok_neg (ge_bin op_fdivW ok_div (ge_bin op_mulW ok_mul (ge_un un_neg ok_neg (gv 1)) (gv 2)) (gv 3)))))))
theorem ex_Lcaught (T : TX P K mg) : ∀ k, okL [17, 13] k = true → PySem.W.exmOne K (.ref ((SG K mg T).cls k)) (.ref T.C_SpanError) = some true := by
  intro k hk
  have hk2 := okL_mem hk
  simp only [List.mem_cons, List.not_mem_nil, or_false] at hk2
  rcases hk2 with rfl | rfl
  · exact T.er_NoRows.ex
  · exact T.er_InvalidLength.ex
theorem eq_Lcaught (T : TX P K mg) : ∀ k, okL [17, 13] k = true → ErrC K ((SG K mg T).cls k) := by
  intro k hk
  have hk2 := okL_mem hk
  simp only [List.mem_cons, List.not_mem_nil, or_false] at hk2
  rcases hk2 with rfl | rfl
  · exact T.er_NoRows.q
  · exact T.er_InvalidLength.q
theorem sc_Lcaught : FnScope ["which", "made", "size", "e"] ["which", "made", "size"] (defScope s_Lcaught) := ⟨rfl, rfl, rfl, by decide +kernel, rfl, by decide +kernel, by decide +kernel⟩
theorem ok_Lcaught (T : TX P K mg) : FG P w K mg base 5 T.a_Lcaught T.d_Lcaught ["which", "made", "size"] (spG (SG K mg T) K 3 f_Lcaught) := by
  skip
  refine fg_of (N := ["which", "made", "size", "e"]) T.A_Lcaught.fn sc_Lcaught fun cdv A fs s H E hr C => ?_
  exact (gb_cons (gs_try (i := 3) (ok := okL [17, 13]) C (fun _ _ _ _ h => h) rfl rfl rfl (by rfl) ⟨by rfl, by decide, .inl T.mg_SpanError⟩ (ex_Lcaught T) (fun pn xe po => (gb_one (gs_if (gt_cmp (op_eqX (C.tr po).eqU) ok_eq (gv 0) ge_int (nomark _)) (gb_one (gs_expr (ge_call (C.tr po) (ok_strictest_least T) (hr.mono (by decide)) (by rfl) T.A_strictest_least.mg T.A_strictest_least.fn.kp T.A_strictest_least.bd (ga_cons (gv 1) (ga_cons (gv 2) ga_nil))))) (gb_one (gs_if (gt_cmp (op_eqX (C.tr po).eqU) ok_eq (gv 0) ge_int (nomark _)) (gb_one (gs_expr (ge_callK (C.tr po) (ok_strictest_least T) (hr.mono (by decide)) (by rfl) T.A_strictest_least.mg T.A_strictest_least.fn.kp T.K_strictest_least_1_0 (gk_cons (gv 2) (gk_cons (gv 1) gk_nil))))) (gb_one (gs_if (gt_cmp (op_eqX (C.tr po).eqU) ok_eq (gv 0) ge_int (nomark _)) (gb_one (gs_expr (ge_call (C.tr po) (ok_strictest_most T) (hr.mono (by decide)) (by rfl) T.A_strictest_most.mg T.A_strictest_most.fn.kp T.A_strictest_most.bd (ga_cons (gv 1) (ga_cons (gv 2) ga_nil))))) (gb_one (gs_expr (ge_callK (C.tr po) (ok_strictest_most T) (hr.mono (by decide)) (by rfl) T.A_strictest_most.mg T.A_strictest_most.fn.kp T.K_strictest_most_1_0 (gk_cons (gv 2) (gk_cons (gv 1) gk_nil)))))))))))) (fun a dd oe e pn he hz hf => (gb_one (gs_ret (ge_callH (k := 1) List.mem_cons_self C.grd (ok_Lflags T he hz hf) (roomH_suite hr (by decide)) (by rfl) T.A_Lflags.mg T.A_Lflags.fn.kp T.A_Lflags.bd (ga_cons (gv 3) ga_nil)))))) (gb_one (gs_ret (ge_frz (gf_lst ga_nil)))))
theorem sc_Lright : FnScope ["pool", "kind", "size", "few", "made", "torn", "due", "which"] ["pool"] (defScope s_Lright) := ⟨rfl, rfl, rfl, by decide +kernel, rfl, by decide +kernel, by decide +kernel⟩
theorem ok_Lright (T : TX P K mg) : FG P w K mg base 6 T.a_Lright T.d_Lright ["pool"] (spG (SG K mg T) K 1 f_Lright) := by
  skip
  refine fg_of (N := ["pool", "kind", "size", "few", "made", "torn", "due", "which"]) T.A_Lright.fn sc_Lright fun cdv A fs s H E hr C => ?_
  exact (gb_cons (gs_set (i := 1) C rfl (by first | exact .inl rfl | exact .inr rfl) (ge_call C (ok_Lkind T) (hr.mono (by decide)) (by rfl) T.A_Lkind.mg T.A_Lkind.fn.kp T.A_Lkind.bd (ga_cons (gv 0) (ga_cons ge_int (ga_cons ge_int ga_nil))))) (gb_cons (gs_if (gt_cmp (op_eqX C.eqU) ok_eq (ge_call C (ok_Ldraw T) (hr.mono (by decide)) (by rfl) T.A_Ldraw.mg T.A_Ldraw.fn.kp T.A_Ldraw.bd (ga_cons (gv 0) (ga_cons ge_int ga_nil))) ge_int (nomark _)) (gb_cons (gs_par (i := 2) (j := 3) C rfl rfl (by decide) rfl rfl (ga_cons (ge_bin op_add ok_add ge_int (ge_call C (ok_Ldraw T) (hr.mono (by decide)) (by rfl) T.A_Ldraw.mg T.A_Ldraw.fn.kp T.A_Ldraw.bd (ga_cons (gv 0) (ga_cons ge_int ga_nil)))) (ga_cons (ge_bin op_sub ok_sub (ge_call C (ok_Ldraw T) (hr.mono (by decide)) (by rfl) T.A_Ldraw.mg T.A_Ldraw.fn.kp T.A_Ldraw.bd (ga_cons (gv 0) (ga_cons ge_int ga_nil))) ge_int) ga_nil)) (by first | rfl | with_unfolding_all rfl | kernel_rfl)) (gb_one (gs_set (i := 1) C rfl (by first | exact .inl rfl | exact .inr rfl) (ge_tup (ga_cons (ge_idx ix_2 ok_idx (gv 1) ge_int (fun _ _ => rfl)) (ga_cons (ge_idx ix_2 ok_idx (gv 1) ge_int (fun _ _ => rfl)) (ga_cons (ge_frz (gf_bin op_cat ok_cat (ge_idx ix_2 ok_idx (gv 1) ge_int (fun _ _ => rfl)) (ge_frz (gf_lst (ga_cons (ge_tup (ga_cons (gv 2) (ga_cons (gv 3) (ga_cons (ge_bin op_add ok_add (gv 3) (ge_call C (ok_Ldraw T) (hr.mono (by decide)) (by rfl) T.A_Ldraw.mg T.A_Ldraw.fn.kp T.A_Ldraw.bd (ga_cons (gv 0) (ga_cons ge_int ga_nil)))) ga_nil)))) ga_nil))))) ga_nil))))))) gb_nil) (gb_cons (gs_par (i := 4) (j := 5) C rfl rfl (by decide) rfl rfl (ga_cons (ge_call C (ok_Lmade T) (hr.mono (by decide)) (by rfl) T.A_Lmade.mg T.A_Lmade.fn.kp T.A_Lmade.bd (ga_cons (gv 1) ga_nil)) (ga_cons (ge_call C (ok_Lconflict T) (hr.mono (by decide)) (by rfl) T.A_Lconflict.mg T.A_Lconflict.fn.kp T.A_Lconflict.bd (ga_cons (gv 1) ga_nil)) ga_nil)) (by first | rfl | with_unfolding_all rfl | kernel_rfl)) (gb_cons (gs_for C (gi_seq (ge_tup (ga_cons ge_int (ga_cons ge_int (ga_cons ge_int (ga_cons (ge_un un_neg ok_neg ge_int) (ga_cons (ge_bin op_sub ok_sub ge_int (ge_call C (ok_Ldraw T) (hr.mono (by decide)) (by rfl) T.A_Ldraw.mg T.A_Ldraw.fn.kp T.A_Ldraw.bd (ga_cons (gv 0) (ga_cons (ge_bin op_powB ok_pow ge_int ge_int) ga_nil)))) ga_nil))))))) (gg_name (i := 2) C.nd rfl (by first | exact .inl rfl | exact .inr rfl)) (gb_cons (gs_set (i := 6) C rfl (by first | exact .inl rfl | exact .inr rfl) (ge_frz (gf_lst ga_nil))) (gb_cons (gs_if (gt_cmp (op_neX C.eqU) ok_ne (gv 5) (ge_frz (gf_lst ga_nil)) (nomark _)) (gb_one (gs_set (i := 6) C rfl (by first | exact .inl rfl | exact .inr rfl) (ge_frz (gf_lst (ga_cons ge_str (ga_cons (ge_idx ix_2 ok_idx (gv 5) ge_int (fun _ _ => rfl)) ga_nil)))))) (gb_one (gs_if (gt_cmp op_lt ok_cmp (gv 2) ge_int (nomark _)) (gb_one (gs_set (i := 6) C rfl (by first | exact .inl rfl | exact .inr rfl) (ge_frz (gf_lst (ga_cons ge_str (ga_cons (gv 2) ga_nil)))))) gb_nil))) (gb_one (gs_for C (gi_rng1 (by rfl) T.n_range (ga_cons ge_int ga_nil)) (gg_name (i := 7) C.nd rfl (by first | exact .inl rfl | exact .inr rfl)) (gb_one (gs_if (gt_cmp (op_neX C.eqU) ok_ne (ge_callB (call_reprD C.grd C.reU) k_repr (by rfl) T.n_repr (by decide +kernel) (ga_cons (ge_call C (ok_Lcaught T) (hr.mono (by decide)) (by rfl) T.A_Lcaught.mg T.A_Lcaught.fn.kp T.A_Lcaught.bd (ga_cons (gv 7) (ga_cons (gv 4) (ga_cons (gv 2) ga_nil)))) ga_nil)) (ge_callB (call_reprD C.grd C.reU) k_repr (by rfl) T.n_repr (by decide +kernel) (ga_cons (gv 6) ga_nil)) (nomark _)) (gb_one (gs_ret ge_bl)) gb_nil))))))) (gb_one (gs_ret (ge_cmp (op_ownEq (c := 0) C (ok_Book_eq T) (hr.mono (by decide)) T.A_Book_eq.bd T.A_Book_eq.mt.at_ T.A_Book_eq.mt.fn) (ok_ownEq (tags T)) (gv 4) (ge_call C (ok_Lmade T) (hr.mono (by decide)) (by rfl) T.A_Lmade.mg T.A_Lmade.fn.kp T.A_Lmade.bd (ga_cons (gv 1) ga_nil)) (nomark _))))))))
theorem sc_law : FnScope ["script", "spot", "pool", "turn"] ["script"] (defScope s_law) := ⟨rfl, rfl, rfl, by decide +kernel, rfl, by decide +kernel, by decide +kernel⟩
theorem ok_law (T : TX P K mg) : FG P w K mg base 7 T.a_law T.d_law ["script"] (spG (SG K mg T) K 1 f_law) := by
  skip
  refine fg_of (N := ["script", "spot", "pool", "turn"]) T.A_law.fn sc_law fun cdv A fs s H E hr C => ?_
  exact (gb_cons (gs_for C (gi_rng1 (by rfl) T.n_range (ga_cons (ge_callB (call_max2 C.calm) k_max2 (by rfl) T.n_max (by decide +kernel) (ga_cons ge_int (ga_cons (ge_callB (call_min2 C.calm) k_min2 (by rfl) T.n_min (by decide +kernel) (ga_cons ge_int (ga_cons (ge_callB call_len_seq k_len (by rfl) T.n_len (by decide +kernel) (ga_cons (gv 0) ga_nil)) ga_nil))) ga_nil))) ga_nil)) (gg_name (i := 1) C.nd rfl (by first | exact .inl rfl | exact .inr rfl)) (gb_cons (gs_set (i := 2) C rfl (by first | exact .inl rfl | exact .inr rfl) (ge_call C (ok_Lpool T) (hr.mono (by decide)) (by rfl) T.A_Lpool.mg T.A_Lpool.fn.kp T.A_Lpool.bd (ga_cons (gv 0) (ga_cons (gv 1) ga_nil)))) (gb_one (gs_for C (gi_rng1 (by rfl) T.n_range (ga_cons ge_int ga_nil)) (gg_name (i := 3) C.nd rfl (by first | exact .inl rfl | exact .inr rfl)) (gb_one (gs_if (gt_not (gt_val (ge_call C (ok_Lright T) (hr.mono (by decide)) (by rfl) T.A_Lright.mg T.A_Lright.fn.kp T.A_Lright.bd (ga_cons (gv 2) ga_nil)))) (gb_one (gs_ret ge_bl)) gb_nil)))))) (gb_one (gs_ret ge_bl)))
end
set_option maxHeartbeats 4000000 in
theorem all_mk {l : PySem.W.OpenLaw} {w : World} {K : PySem.W.Frag} {h : Heap} {mg : Str → Option Value} {fa C_Book C_SpanError C_InvalidDays C_InvalidRule C_InvalidLength C_InvalidNumber C_InvalidKnown C_InvalidDay C_NoRows C_Contradiction C_TooMany C_NothingToUndo C_Unreadable w_ini cc_ini cd_ini w_Lpool w_Ldraw w_Lkind w_Book_eq w_is_rule w_Book_init w_Lmade w_Lbounds w_Lconflict w_check_length w_Book_conflict w_check_rows w_in_lowest_terms w_shares w_strictest_least w_Lflags w_strictest_most w_Lcaught w_Lright w_law : Addr} (X : K.In h) (G : h.Ns mainGlobals mg) (hfa : mg "law" = some (.ref fa))
    {od_ini an_ini cld_ini cdd_ini : Option Addr} {oc_ini kV_ini dc_ini pm_ini ct_ini cl_ini ccl_ini : Value} {sl_ini csl_ini ccs_ini : Array (Option Value)} {vs_ini : Array Value} {fl_ini : Str} {tf_ini : Tok} {od_Lpool an_Lpool : Option Addr} {oc_Lpool kV_Lpool dc_Lpool pm_Lpool cd_Lpool ct_Lpool : Value} {sl_Lpool : Array (Option Value)} {od_Ldraw an_Ldraw : Option Addr} {oc_Ldraw kV_Ldraw dc_Ldraw pm_Ldraw cd_Ldraw ct_Ldraw : Value} {sl_Ldraw : Array (Option Value)} {od_Lkind an_Lkind : Option Addr} {oc_Lkind kV_Lkind dc_Lkind pm_Lkind cd_Lkind ct_Lkind : Value} {sl_Lkind : Array (Option Value)} {od_Book_eq an_Book_eq : Option Addr} {oc_Book_eq kV_Book_eq dc_Book_eq pm_Book_eq cd_Book_eq ct_Book_eq : Value} {sl_Book_eq : Array (Option Value)} {od_is_rule an_is_rule : Option Addr} {oc_is_rule kV_is_rule dc_is_rule pm_is_rule cd_is_rule ct_is_rule : Value} {sl_is_rule : Array (Option Value)} {od_Book_init an_Book_init : Option Addr} {oc_Book_init kV_Book_init dc_Book_init pm_Book_init cd_Book_init ct_Book_init : Value} {sl_Book_init : Array (Option Value)} {od_Lmade an_Lmade : Option Addr} {oc_Lmade kV_Lmade dc_Lmade pm_Lmade cd_Lmade ct_Lmade : Value} {sl_Lmade : Array (Option Value)} {od_Lbounds an_Lbounds : Option Addr} {oc_Lbounds kV_Lbounds dc_Lbounds pm_Lbounds cd_Lbounds ct_Lbounds : Value} {sl_Lbounds : Array (Option Value)} {od_Lconflict an_Lconflict : Option Addr} {oc_Lconflict kV_Lconflict dc_Lconflict pm_Lconflict cd_Lconflict ct_Lconflict : Value} {sl_Lconflict : Array (Option Value)} {od_check_length an_check_length : Option Addr} {oc_check_length kV_check_length dc_check_length pm_check_length cd_check_length ct_check_length : Value} {sl_check_length : Array (Option Value)} {od_Book_conflict an_Book_conflict : Option Addr} {oc_Book_conflict kV_Book_conflict dc_Book_conflict pm_Book_conflict cd_Book_conflict ct_Book_conflict : Value} {sl_Book_conflict : Array (Option Value)} {od_check_rows an_check_rows : Option Addr} {oc_check_rows kV_check_rows dc_check_rows pm_check_rows cd_check_rows ct_check_rows : Value} {sl_check_rows : Array (Option Value)} {od_in_lowest_terms an_in_lowest_terms : Option Addr} {oc_in_lowest_terms kV_in_lowest_terms dc_in_lowest_terms pm_in_lowest_terms cd_in_lowest_terms ct_in_lowest_terms : Value} {sl_in_lowest_terms : Array (Option Value)} {od_shares an_shares : Option Addr} {oc_shares kV_shares dc_shares pm_shares cd_shares ct_shares : Value} {sl_shares : Array (Option Value)} {od_strictest_least an_strictest_least : Option Addr} {oc_strictest_least kV_strictest_least dc_strictest_least pm_strictest_least cd_strictest_least ct_strictest_least : Value} {sl_strictest_least : Array (Option Value)} {od_Lflags an_Lflags : Option Addr} {oc_Lflags kV_Lflags dc_Lflags pm_Lflags cd_Lflags ct_Lflags : Value} {sl_Lflags : Array (Option Value)} {od_strictest_most an_strictest_most : Option Addr} {oc_strictest_most kV_strictest_most dc_strictest_most pm_strictest_most cd_strictest_most ct_strictest_most : Value} {sl_strictest_most : Array (Option Value)} {od_Lcaught an_Lcaught : Option Addr} {oc_Lcaught kV_Lcaught dc_Lcaught pm_Lcaught cd_Lcaught ct_Lcaught : Value} {sl_Lcaught : Array (Option Value)} {od_Lright an_Lright : Option Addr} {oc_Lright kV_Lright dc_Lright pm_Lright cd_Lright ct_Lright : Value} {sl_Lright : Array (Option Value)} {od_law an_law : Option Addr} {oc_law kV_law dc_law pm_law cd_law ct_law : Value} {sl_law : Array (Option Value)}
    (mc_Book : PySem.W.nsIn K mainGlobals "Book" = some (some (.ref C_Book)))
    (pg_Book : PySem.W.plainGet K C_Book Str.empty = true)
    (hd_Book : PySem.W.hasDictIn K C_Book = true)
    (po_Book : PySem.W.plainOver K C_Book = true)
    (sa_Book : PySem.W.findIn K (.ref C_Book) "__setattr__" = some (some (.builtin "object.__setattr__")))
    (mc_SpanError : PySem.W.nsIn K mainGlobals "SpanError" = some (some (.ref C_SpanError)))
    (mc_InvalidDays : PySem.W.nsIn K mainGlobals "InvalidDays" = some (some (.ref C_InvalidDays)))
    (mc_InvalidRule : PySem.W.nsIn K mainGlobals "InvalidRule" = some (some (.ref C_InvalidRule)))
    (mc_InvalidLength : PySem.W.nsIn K mainGlobals "InvalidLength" = some (some (.ref C_InvalidLength)))
    (mc_InvalidNumber : PySem.W.nsIn K mainGlobals "InvalidNumber" = some (some (.ref C_InvalidNumber)))
    (mc_InvalidKnown : PySem.W.nsIn K mainGlobals "InvalidKnown" = some (some (.ref C_InvalidKnown)))
    (mc_InvalidDay : PySem.W.nsIn K mainGlobals "InvalidDay" = some (some (.ref C_InvalidDay)))
    (mc_NoRows : PySem.W.nsIn K mainGlobals "NoRows" = some (some (.ref C_NoRows)))
    (mc_Contradiction : PySem.W.nsIn K mainGlobals "Contradiction" = some (some (.ref C_Contradiction)))
    (mc_TooMany : PySem.W.nsIn K mainGlobals "TooMany" = some (some (.ref C_TooMany)))
    (mc_NothingToUndo : PySem.W.nsIn K mainGlobals "NothingToUndo" = some (some (.ref C_NothingToUndo)))
    (mc_Unreadable : PySem.W.nsIn K mainGlobals "Unreadable" = some (some (.ref C_Unreadable)))
    (a_ini : PySem.W.findIn K (.ref C_SpanError) "__init__" = some (some (.ref w_ini)))
    (l_ini : K.lookup w_ini = some ⟨oc_ini, od_ini, .func (PySem.W.ksFn "__init__" "SpanError.__init__" (defArgs s_SpanError_init) (defBody s_SpanError_init) (defScope s_SpanError_init) .none kV_ini dc_ini pm_ini an_ini (.ref cd_ini) ct_ini cc_ini), sl_ini⟩)
    (c_ini : PySem.W.codeIn K (.ref cd_ini) "SpanError.__init__" = true)
    (x_ini : K.lookup cc_ini = some ⟨cl_ini, cld_ini, .cell (some (.ref C_SpanError)), csl_ini⟩)
    (y_ini : K.lookup cd_ini = some ⟨ccl_ini, cdd_ini, .fields vs_ini, ccs_ini⟩)
    (v_ini : vs_ini[2]? = some (.str fl_ini tf_ini))
    (f_ini : ((l.prog.main.file : Str) == fl_ini) = true)
    (d_ini : (PySem.W.clsIn K C_SpanError).isSome = true)
    (t_ini : (l.prog.main.scope.names.lookup ("super" : Str)).isSome = false)
    (eb_InvalidDays : errB K C_InvalidDays C_SpanError w_ini = true)
    (eb_InvalidRule : errB K C_InvalidRule C_SpanError w_ini = true)
    (eb_InvalidLength : errB K C_InvalidLength C_SpanError w_ini = true)
    (eb_NoRows : errB K C_NoRows C_SpanError w_ini = true)
    (kt_Lflags_0_NoRows : PySem.W.kitAny K (.ref C_NoRows) [.ref C_Contradiction, .ref C_InvalidDay, .ref C_InvalidDays, .ref C_InvalidKnown, .ref C_InvalidNumber, .ref C_InvalidRule, .ref C_TooMany] = some false)
    (kt_Lflags_0_InvalidLength : PySem.W.kitAny K (.ref C_InvalidLength) [.ref C_Contradiction, .ref C_InvalidDay, .ref C_InvalidDays, .ref C_InvalidKnown, .ref C_InvalidNumber, .ref C_InvalidRule, .ref C_TooMany] = some false)
    (kt_Lflags_1_NoRows : PySem.W.kitAny K (.ref C_NoRows) [.ref C_NothingToUndo, .ref C_Unreadable] = some false)
    (kt_Lflags_1_InvalidLength : PySem.W.kitAny K (.ref C_InvalidLength) [.ref C_NothingToUndo, .ref C_Unreadable] = some false)
    (kt_Lflags_2_NoRows : PySem.W.kitOne K (.ref C_NoRows) (.type "ValueError") = some true)
    (kt_Lflags_2_InvalidLength : PySem.W.kitOne K (.ref C_InvalidLength) (.type "ValueError") = some true)
    (kt_Lflags_3_NoRows : PySem.W.kitOne K (.ref C_NoRows) (.ref C_NoRows) = some true)
    (kt_Lflags_3_InvalidLength : PySem.W.kitOne K (.ref C_InvalidLength) (.ref C_NoRows) = some false)
    (kt_Lflags_4_NoRows : PySem.W.kitOne K (.ref C_NoRows) (.ref C_InvalidLength) = some false)
    (kt_Lflags_4_InvalidLength : PySem.W.kitOne K (.ref C_InvalidLength) (.ref C_InvalidLength) = some true)
    (nf_Book_bounds : PySem.W.findIn K (.ref C_Book) "bounds" = some none)
    (nf_Book_lower : PySem.W.findIn K (.ref C_Book) "lower" = some none)
    (nf_Book_upper : PySem.W.findIn K (.ref C_Book) "upper" = some none)
    (ia_Book : PySem.W.findIn K (.ref C_Book) "__class__" = some (some (.builtin "object.__class__")))
    (in_Book : PySem.W.specialIn K (.builtin "object.__class__") "__get__" = some (some (.builtin "getset_descriptor.__get__")))
    (it_Book : PySem.W.takesIn K (.builtin "object.__class__") = some true)
    (im_Book : PySem.W.mroIn K C_Book (.type "object") = some true)
    (a_Lpool : PySem.W.nsIn K mainGlobals "_law_pool" = some (some (.ref w_Lpool)))
    (l_Lpool : K.lookup w_Lpool = some ⟨oc_Lpool, od_Lpool, .func (PySem.W.fnOf "_law_pool" "_law_pool" (defArgs s_Lpool) (defBody s_Lpool) (defScope s_Lpool) .none kV_Lpool dc_Lpool pm_Lpool an_Lpool cd_Lpool ct_Lpool), sl_Lpool⟩)
    (c_Lpool : PySem.W.codeIn K cd_Lpool "_law_pool" = true)
    (k_Lpool : PySem.W.keepIn K (.ref w_Lpool) = true)
    (a_Ldraw : PySem.W.nsIn K mainGlobals "_law_draw" = some (some (.ref w_Ldraw)))
    (l_Ldraw : K.lookup w_Ldraw = some ⟨oc_Ldraw, od_Ldraw, .func (PySem.W.fnOf "_law_draw" "_law_draw" (defArgs s_Ldraw) (defBody s_Ldraw) (defScope s_Ldraw) .none kV_Ldraw dc_Ldraw pm_Ldraw an_Ldraw cd_Ldraw ct_Ldraw), sl_Ldraw⟩)
    (c_Ldraw : PySem.W.codeIn K cd_Ldraw "_law_draw" = true)
    (k_Ldraw : PySem.W.keepIn K (.ref w_Ldraw) = true)
    (a_Lkind : PySem.W.nsIn K mainGlobals "_law_kind" = some (some (.ref w_Lkind)))
    (l_Lkind : K.lookup w_Lkind = some ⟨oc_Lkind, od_Lkind, .func (PySem.W.fnOf "_law_kind" "_law_kind" (defArgs s_Lkind) (defBody s_Lkind) (defScope s_Lkind) .none kV_Lkind dc_Lkind pm_Lkind an_Lkind cd_Lkind ct_Lkind), sl_Lkind⟩)
    (c_Lkind : PySem.W.codeIn K cd_Lkind "_law_kind" = true)
    (k_Lkind : PySem.W.keepIn K (.ref w_Lkind) = true)
    (a_Book_eq : PySem.W.findIn K (.ref C_Book) "__eq__" = some (some (.ref w_Book_eq)))
    (i_Book_eq : PySem.W.isFn K (.ref w_Book_eq) = true)
    (l_Book_eq : K.lookup w_Book_eq = some ⟨oc_Book_eq, od_Book_eq, .func (PySem.W.fnOf "__eq__" "Book.__eq__" (defArgs s_Book_eq) (defBody s_Book_eq) (defScope s_Book_eq) .none kV_Book_eq dc_Book_eq pm_Book_eq an_Book_eq cd_Book_eq ct_Book_eq), sl_Book_eq⟩)
    (c_Book_eq : PySem.W.codeIn K cd_Book_eq "Book.__eq__" = true)
    (k_Book_eq : PySem.W.keepIn K (.ref w_Book_eq) = true)
    (a_is_rule : PySem.W.nsIn K mainGlobals "is_rule" = some (some (.ref w_is_rule)))
    (l_is_rule : K.lookup w_is_rule = some ⟨oc_is_rule, od_is_rule, .func (PySem.W.fnOf "is_rule" "is_rule" (defArgs s_is_rule) (defBody s_is_rule) (defScope s_is_rule) .none kV_is_rule dc_is_rule pm_is_rule an_is_rule cd_is_rule ct_is_rule), sl_is_rule⟩)
    (c_is_rule : PySem.W.codeIn K cd_is_rule "is_rule" = true)
    (k_is_rule : PySem.W.keepIn K (.ref w_is_rule) = true)
    (a_Book_init : PySem.W.findIn K (.ref C_Book) "__init__" = some (some (.ref w_Book_init)))
    (i_Book_init : PySem.W.isFn K (.ref w_Book_init) = true)
    (l_Book_init : K.lookup w_Book_init = some ⟨oc_Book_init, od_Book_init, .func (PySem.W.fnOf "__init__" "Book.__init__" (defArgs s_Book_init) (defBody s_Book_init) (defScope s_Book_init) .none kV_Book_init dc_Book_init pm_Book_init an_Book_init cd_Book_init ct_Book_init), sl_Book_init⟩)
    (c_Book_init : PySem.W.codeIn K cd_Book_init "Book.__init__" = true)
    (k_Book_init : PySem.W.keepIn K (.ref w_Book_init) = true)
    (mk_Book : PySem.W.makesIn K C_Book = true)
    (kc_Book : PySem.W.keepIn K (.ref C_Book) = true)
    (a_Lmade : PySem.W.nsIn K mainGlobals "_law_made" = some (some (.ref w_Lmade)))
    (l_Lmade : K.lookup w_Lmade = some ⟨oc_Lmade, od_Lmade, .func (PySem.W.fnOf "_law_made" "_law_made" (defArgs s_Lmade) (defBody s_Lmade) (defScope s_Lmade) .none kV_Lmade dc_Lmade pm_Lmade an_Lmade cd_Lmade ct_Lmade), sl_Lmade⟩)
    (c_Lmade : PySem.W.codeIn K cd_Lmade "_law_made" = true)
    (k_Lmade : PySem.W.keepIn K (.ref w_Lmade) = true)
    (a_Lbounds : PySem.W.nsIn K mainGlobals "_law_bounds" = some (some (.ref w_Lbounds)))
    (l_Lbounds : K.lookup w_Lbounds = some ⟨oc_Lbounds, od_Lbounds, .func (PySem.W.fnOf "_law_bounds" "_law_bounds" (defArgs s_Lbounds) (defBody s_Lbounds) (defScope s_Lbounds) .none kV_Lbounds dc_Lbounds pm_Lbounds an_Lbounds cd_Lbounds ct_Lbounds), sl_Lbounds⟩)
    (c_Lbounds : PySem.W.codeIn K cd_Lbounds "_law_bounds" = true)
    (k_Lbounds : PySem.W.keepIn K (.ref w_Lbounds) = true)
    (a_Lconflict : PySem.W.nsIn K mainGlobals "_law_conflict" = some (some (.ref w_Lconflict)))
    (l_Lconflict : K.lookup w_Lconflict = some ⟨oc_Lconflict, od_Lconflict, .func (PySem.W.fnOf "_law_conflict" "_law_conflict" (defArgs s_Lconflict) (defBody s_Lconflict) (defScope s_Lconflict) .none kV_Lconflict dc_Lconflict pm_Lconflict an_Lconflict cd_Lconflict ct_Lconflict), sl_Lconflict⟩)
    (c_Lconflict : PySem.W.codeIn K cd_Lconflict "_law_conflict" = true)
    (k_Lconflict : PySem.W.keepIn K (.ref w_Lconflict) = true)
    (a_check_length : PySem.W.nsIn K mainGlobals "check_length" = some (some (.ref w_check_length)))
    (l_check_length : K.lookup w_check_length = some ⟨oc_check_length, od_check_length, .func (PySem.W.fnOf "check_length" "check_length" (defArgs s_check_length) (defBody s_check_length) (defScope s_check_length) .none kV_check_length dc_check_length pm_check_length an_check_length cd_check_length ct_check_length), sl_check_length⟩)
    (c_check_length : PySem.W.codeIn K cd_check_length "check_length" = true)
    (k_check_length : PySem.W.keepIn K (.ref w_check_length) = true)
    (a_Book_conflict : PySem.W.findIn K (.ref C_Book) "conflict" = some (some (.ref w_Book_conflict)))
    (i_Book_conflict : PySem.W.isFn K (.ref w_Book_conflict) = true)
    (l_Book_conflict : K.lookup w_Book_conflict = some ⟨oc_Book_conflict, od_Book_conflict, .func (PySem.W.fnOf "conflict" "Book.conflict" (defArgs s_Book_conflict) (defBody s_Book_conflict) (defScope s_Book_conflict) .none kV_Book_conflict dc_Book_conflict pm_Book_conflict an_Book_conflict cd_Book_conflict ct_Book_conflict), sl_Book_conflict⟩)
    (c_Book_conflict : PySem.W.codeIn K cd_Book_conflict "Book.conflict" = true)
    (k_Book_conflict : PySem.W.keepIn K (.ref w_Book_conflict) = true)
    (a_check_rows : PySem.W.nsIn K mainGlobals "check_rows" = some (some (.ref w_check_rows)))
    (l_check_rows : K.lookup w_check_rows = some ⟨oc_check_rows, od_check_rows, .func (PySem.W.fnOf "check_rows" "check_rows" (defArgs s_check_rows) (defBody s_check_rows) (defScope s_check_rows) .none kV_check_rows dc_check_rows pm_check_rows an_check_rows cd_check_rows ct_check_rows), sl_check_rows⟩)
    (c_check_rows : PySem.W.codeIn K cd_check_rows "check_rows" = true)
    (k_check_rows : PySem.W.keepIn K (.ref w_check_rows) = true)
    (a_in_lowest_terms : PySem.W.nsIn K mainGlobals "in_lowest_terms" = some (some (.ref w_in_lowest_terms)))
    (l_in_lowest_terms : K.lookup w_in_lowest_terms = some ⟨oc_in_lowest_terms, od_in_lowest_terms, .func (PySem.W.fnOf "in_lowest_terms" "in_lowest_terms" (defArgs s_in_lowest_terms) (defBody s_in_lowest_terms) (defScope s_in_lowest_terms) .none kV_in_lowest_terms dc_in_lowest_terms pm_in_lowest_terms an_in_lowest_terms cd_in_lowest_terms ct_in_lowest_terms), sl_in_lowest_terms⟩)
    (c_in_lowest_terms : PySem.W.codeIn K cd_in_lowest_terms "in_lowest_terms" = true)
    (k_in_lowest_terms : PySem.W.keepIn K (.ref w_in_lowest_terms) = true)
    (a_shares : PySem.W.nsIn K mainGlobals "shares" = some (some (.ref w_shares)))
    (l_shares : K.lookup w_shares = some ⟨oc_shares, od_shares, .func (PySem.W.fnOf "shares" "shares" (defArgs s_shares) (defBody s_shares) (defScope s_shares) .none kV_shares dc_shares pm_shares an_shares cd_shares ct_shares), sl_shares⟩)
    (c_shares : PySem.W.codeIn K cd_shares "shares" = true)
    (k_shares : PySem.W.keepIn K (.ref w_shares) = true)
    (a_strictest_least : PySem.W.nsIn K mainGlobals "strictest_least" = some (some (.ref w_strictest_least)))
    (l_strictest_least : K.lookup w_strictest_least = some ⟨oc_strictest_least, od_strictest_least, .func (PySem.W.fnOf "strictest_least" "strictest_least" (defArgs s_strictest_least) (defBody s_strictest_least) (defScope s_strictest_least) .none kV_strictest_least dc_strictest_least pm_strictest_least an_strictest_least cd_strictest_least ct_strictest_least), sl_strictest_least⟩)
    (c_strictest_least : PySem.W.codeIn K cd_strictest_least "strictest_least" = true)
    (k_strictest_least : PySem.W.keepIn K (.ref w_strictest_least) = true)
    (a_Lflags : PySem.W.nsIn K mainGlobals "_law_flags" = some (some (.ref w_Lflags)))
    (l_Lflags : K.lookup w_Lflags = some ⟨oc_Lflags, od_Lflags, .func (PySem.W.fnOf "_law_flags" "_law_flags" (defArgs s_Lflags) (defBody s_Lflags) (defScope s_Lflags) .none kV_Lflags dc_Lflags pm_Lflags an_Lflags cd_Lflags ct_Lflags), sl_Lflags⟩)
    (c_Lflags : PySem.W.codeIn K cd_Lflags "_law_flags" = true)
    (k_Lflags : PySem.W.keepIn K (.ref w_Lflags) = true)
    (a_strictest_most : PySem.W.nsIn K mainGlobals "strictest_most" = some (some (.ref w_strictest_most)))
    (l_strictest_most : K.lookup w_strictest_most = some ⟨oc_strictest_most, od_strictest_most, .func (PySem.W.fnOf "strictest_most" "strictest_most" (defArgs s_strictest_most) (defBody s_strictest_most) (defScope s_strictest_most) .none kV_strictest_most dc_strictest_most pm_strictest_most an_strictest_most cd_strictest_most ct_strictest_most), sl_strictest_most⟩)
    (c_strictest_most : PySem.W.codeIn K cd_strictest_most "strictest_most" = true)
    (k_strictest_most : PySem.W.keepIn K (.ref w_strictest_most) = true)
    (a_Lcaught : PySem.W.nsIn K mainGlobals "_law_caught" = some (some (.ref w_Lcaught)))
    (l_Lcaught : K.lookup w_Lcaught = some ⟨oc_Lcaught, od_Lcaught, .func (PySem.W.fnOf "_law_caught" "_law_caught" (defArgs s_Lcaught) (defBody s_Lcaught) (defScope s_Lcaught) .none kV_Lcaught dc_Lcaught pm_Lcaught an_Lcaught cd_Lcaught ct_Lcaught), sl_Lcaught⟩)
    (c_Lcaught : PySem.W.codeIn K cd_Lcaught "_law_caught" = true)
    (k_Lcaught : PySem.W.keepIn K (.ref w_Lcaught) = true)
    (a_Lright : PySem.W.nsIn K mainGlobals "_law_right" = some (some (.ref w_Lright)))
    (l_Lright : K.lookup w_Lright = some ⟨oc_Lright, od_Lright, .func (PySem.W.fnOf "_law_right" "_law_right" (defArgs s_Lright) (defBody s_Lright) (defScope s_Lright) .none kV_Lright dc_Lright pm_Lright an_Lright cd_Lright ct_Lright), sl_Lright⟩)
    (c_Lright : PySem.W.codeIn K cd_Lright "_law_right" = true)
    (k_Lright : PySem.W.keepIn K (.ref w_Lright) = true)
    (a_law : PySem.W.nsIn K mainGlobals "law" = some (some (.ref w_law)))
    (l_law : K.lookup w_law = some ⟨oc_law, od_law, .func (PySem.W.fnOf "law" "law" (defArgs s_law) (defBody s_law) (defScope s_law) .none kV_law dc_law pm_law an_law cd_law ct_law), sl_law⟩)
    (c_law : PySem.W.codeIn K cd_law "law" = true)
    (k_law : PySem.W.keepIn K (.ref w_law) = true)
    (z_ValueError : PySem.W.nsIn K mainGlobals "ValueError" = some none)
    (z_abs : PySem.W.nsIn K mainGlobals "abs" = some none)
    (z_enumerate : PySem.W.nsIn K mainGlobals "enumerate" = some none)
    (z_int : PySem.W.nsIn K mainGlobals "int" = some none)
    (z_isinstance : PySem.W.nsIn K mainGlobals "isinstance" = some none)
    (z_len : PySem.W.nsIn K mainGlobals "len" = some none)
    (z_list : PySem.W.nsIn K mainGlobals "list" = some none)
    (z_max : PySem.W.nsIn K mainGlobals "max" = some none)
    (z_min : PySem.W.nsIn K mainGlobals "min" = some none)
    (z_range : PySem.W.nsIn K mainGlobals "range" = some none)
    (z_repr : PySem.W.nsIn K mainGlobals "repr" = some none)
    (z_super : PySem.W.nsIn K mainGlobals "super" = some none) :
    ∃ (fd : FuncData) (Gg : Sig), (∀ (s : Shared) (v : Value), BindsTo s fd ⟨[v], []⟩ [("script", v)]) ∧ ∀ base : Heap, K.In base → base.Ns mainGlobals mg → FG l.prog w K mg base 7 fa fd ["script"] (spG Gg K 1 f_law) := by
  have e := hfa.symm.trans (PySem.W.mg_of X G a_law)
  cases e
  obtain ⟨T, e1, e2⟩ : ∃ T : TX l.prog K mg, T.a_law = fa ∧ T.d_law = PySem.W.fnOf "law" "law" (defArgs s_law) (defBody s_law) (defScope s_law) .none kV_law dc_law pm_law an_law cd_law ct_law :=
    ⟨(⟨C_Book, ⟨pg_Book, hd_Book, po_Book, sa_Book⟩, PySem.W.mg_of X G mc_Book, C_SpanError, PySem.W.mg_of X G mc_SpanError, C_InvalidDays, PySem.W.mg_of X G mc_InvalidDays, C_InvalidRule, PySem.W.mg_of X G mc_InvalidRule, C_InvalidLength, PySem.W.mg_of X G mc_InvalidLength, C_InvalidNumber, PySem.W.mg_of X G mc_InvalidNumber, C_InvalidKnown, PySem.W.mg_of X G mc_InvalidKnown, C_InvalidDay, PySem.W.mg_of X G mc_InvalidDay, C_NoRows, PySem.W.mg_of X G mc_NoRows, C_Contradiction, PySem.W.mg_of X G mc_Contradiction, C_TooMany, PySem.W.mg_of X G mc_TooMany, C_NothingToUndo, PySem.W.mg_of X G mc_NothingToUndo, C_Unreadable, PySem.W.mg_of X G mc_Unreadable, w_ini, cc_ini, cd_ini, ⟨rfl, rfl, ⟨_, _, _, _, _, _, _, _, l_ini⟩, c_ini, NdefX.nscope_by (show NdefX.nscB ["self", "value", "__class__"] ["self", "value"] ["__class__"] (defScope s_SpanError_init) = true by decide +kernel), (show (defScope s_SpanError_init).names.lookup ("super" : Str) = some .globalImplicit by decide +kernel), ⟨_, rfl, rfl⟩, ⟨_, _, _, _, _, _, y_ini, v_ini, f_ini⟩, ⟨_, _, _, x_ini⟩, Option.isSome_iff_exists.mp d_ini, t_ini, (fun _ _ _ _ _ us hl => match us, hl with | [_, _], _ => rfl), ⟨_, _, _, _, _, _, _, _, _, _, rfl, rfl⟩⟩, errB_ok eb_InvalidDays, errB_ok eb_InvalidRule, errB_ok eb_InvalidLength, errB_ok eb_NoRows, kt_Lflags_0_NoRows, kt_Lflags_0_InvalidLength, kt_Lflags_1_NoRows, kt_Lflags_1_InvalidLength, kt_Lflags_2_NoRows, kt_Lflags_2_InvalidLength, kt_Lflags_3_NoRows, kt_Lflags_3_InvalidLength, kt_Lflags_4_NoRows, kt_Lflags_4_InvalidLength, nf_Book_bounds, nf_Book_lower, nf_Book_upper, ⟨⟨pg_Book, hd_Book, po_Book, sa_Book⟩, ia_Book, in_Book, it_Book, im_Book⟩, if_pos (beq_self_eq_true _), w_Lpool, _, ⟨(fun_mk (st := s_Lpool) l_Lpool c_Lpool k_Lpool), PySem.W.mg_of X G a_Lpool, ((fun_mk (st := s_Lpool) l_Lpool c_Lpool k_Lpool).binds (ps := ["script", "spot"]) fun _ _ _ _ _ _ us hl => match us, hl with | [_, _], _ => rfl)⟩, w_Ldraw, _, ⟨(fun_mk (st := s_Ldraw) l_Ldraw c_Ldraw k_Ldraw), PySem.W.mg_of X G a_Ldraw, ((fun_mk (st := s_Ldraw) l_Ldraw c_Ldraw k_Ldraw).binds (ps := ["pool", "many"]) fun _ _ _ _ _ _ us hl => match us, hl with | [_, _], _ => rfl)⟩, w_Lkind, _, ⟨(fun_mk (st := s_Lkind) l_Lkind c_Lkind k_Lkind), PySem.W.mg_of X G a_Lkind, ((fun_mk (st := s_Lkind) l_Lkind c_Lkind k_Lkind).binds (ps := ["pool", "wide", "often"]) fun _ _ _ _ _ _ us hl => match us, hl with | [_, _, _], _ => rfl)⟩, w_Book_eq, _, ⟨(fun_mk (st := s_Book_eq) l_Book_eq c_Book_eq k_Book_eq), ⟨a_Book_eq, i_Book_eq, k_Book_eq⟩, ((fun_mk (st := s_Book_eq) l_Book_eq c_Book_eq k_Book_eq).binds (ps := ["self", "other"]) fun _ _ _ _ _ _ us hl => match us, hl with | [_, _], _ => rfl)⟩, w_is_rule, _, ⟨(fun_mk (st := s_is_rule) l_is_rule c_is_rule k_is_rule), PySem.W.mg_of X G a_is_rule, ((fun_mk (st := s_is_rule) l_is_rule c_is_rule k_is_rule).binds (ps := ["rule"]) fun _ _ _ _ _ _ us hl => match us, hl with | [_], _ => rfl)⟩, w_Book_init, _, ⟨(fun_mk (st := s_Book_init) l_Book_init c_Book_init k_Book_init), ⟨a_Book_init, i_Book_init, k_Book_init⟩, ((fun_mk (st := s_Book_init) l_Book_init c_Book_init k_Book_init).binds (ps := ["self", "low", "high", "rules"]) fun _ _ _ _ _ _ us hl => match us, hl with | [_, _, _, _], _ => rfl)⟩, ⟨mk_Book, a_Book_init, i_Book_init, kc_Book⟩, w_Lmade, _, ⟨(fun_mk (st := s_Lmade) l_Lmade c_Lmade k_Lmade), PySem.W.mg_of X G a_Lmade, ((fun_mk (st := s_Lmade) l_Lmade c_Lmade k_Lmade).binds (ps := ["kind"]) fun _ _ _ _ _ _ us hl => match us, hl with | [_], _ => rfl)⟩, w_Lbounds, _, ⟨(fun_mk (st := s_Lbounds) l_Lbounds c_Lbounds k_Lbounds), PySem.W.mg_of X G a_Lbounds, ((fun_mk (st := s_Lbounds) l_Lbounds c_Lbounds k_Lbounds).binds (ps := ["kind"]) fun _ _ _ _ _ _ us hl => match us, hl with | [_], _ => rfl)⟩, w_Lconflict, _, ⟨(fun_mk (st := s_Lconflict) l_Lconflict c_Lconflict k_Lconflict), PySem.W.mg_of X G a_Lconflict, ((fun_mk (st := s_Lconflict) l_Lconflict c_Lconflict k_Lconflict).binds (ps := ["kind"]) fun _ _ _ _ _ _ us hl => match us, hl with | [_], _ => rfl)⟩, w_check_length, _, ⟨(fun_mk (st := s_check_length) l_check_length c_check_length k_check_length), PySem.W.mg_of X G a_check_length, ((fun_mk (st := s_check_length) l_check_length c_check_length k_check_length).binds (ps := ["length", "least"]) fun _ _ _ _ _ _ us hl => match us, hl with | [_, _], _ => rfl)⟩, w_Book_conflict, _, ⟨(fun_mk (st := s_Book_conflict) l_Book_conflict c_Book_conflict k_Book_conflict), ⟨a_Book_conflict, i_Book_conflict, k_Book_conflict⟩, ((fun_mk (st := s_Book_conflict) l_Book_conflict c_Book_conflict k_Book_conflict).binds (ps := ["self"]) fun _ _ _ _ _ _ us hl => match us, hl with | [_], _ => rfl)⟩, w_check_rows, _, ⟨(fun_mk (st := s_check_rows) l_check_rows c_check_rows k_check_rows), PySem.W.mg_of X G a_check_rows, ((fun_mk (st := s_check_rows) l_check_rows c_check_rows k_check_rows).binds (ps := ["book"]) fun _ _ _ _ _ _ us hl => match us, hl with | [_], _ => rfl)⟩, w_in_lowest_terms, _, ⟨(fun_mk (st := s_in_lowest_terms) l_in_lowest_terms c_in_lowest_terms k_in_lowest_terms), PySem.W.mg_of X G a_in_lowest_terms, ((fun_mk (st := s_in_lowest_terms) l_in_lowest_terms c_in_lowest_terms k_in_lowest_terms).binds (ps := ["top", "bottom"]) fun _ _ _ _ _ _ us hl => match us, hl with | [_, _], _ => rfl)⟩, w_shares, _, ⟨(fun_mk (st := s_shares) l_shares c_shares k_shares), PySem.W.mg_of X G a_shares, ((fun_mk (st := s_shares) l_shares c_shares k_shares).binds (ps := ["book"]) fun _ _ _ _ _ _ us hl => match us, hl with | [_], _ => rfl)⟩, w_strictest_least, _, ⟨(fun_mk (st := s_strictest_least) l_strictest_least c_strictest_least k_strictest_least), PySem.W.mg_of X G a_strictest_least, ((fun_mk (st := s_strictest_least) l_strictest_least c_strictest_least k_strictest_least).binds (ps := ["book", "width"]) fun _ _ _ _ _ _ us hl => match us, hl with | [_, _], _ => rfl)⟩, w_Lflags, _, ⟨(fun_mk (st := s_Lflags) l_Lflags c_Lflags k_Lflags), PySem.W.mg_of X G a_Lflags, ((fun_mk (st := s_Lflags) l_Lflags c_Lflags k_Lflags).binds (ps := ["e"]) fun _ _ _ _ _ _ us hl => match us, hl with | [_], _ => rfl)⟩, w_strictest_most, _, ⟨(fun_mk (st := s_strictest_most) l_strictest_most c_strictest_most k_strictest_most), PySem.W.mg_of X G a_strictest_most, ((fun_mk (st := s_strictest_most) l_strictest_most c_strictest_most k_strictest_most).binds (ps := ["book", "width"]) fun _ _ _ _ _ _ us hl => match us, hl with | [_, _], _ => rfl)⟩, w_Lcaught, _, ⟨(fun_mk (st := s_Lcaught) l_Lcaught c_Lcaught k_Lcaught), PySem.W.mg_of X G a_Lcaught, ((fun_mk (st := s_Lcaught) l_Lcaught c_Lcaught k_Lcaught).binds (ps := ["which", "made", "size"]) fun _ _ _ _ _ _ us hl => match us, hl with | [_, _, _], _ => rfl)⟩, w_Lright, _, ⟨(fun_mk (st := s_Lright) l_Lright c_Lright k_Lright), PySem.W.mg_of X G a_Lright, ((fun_mk (st := s_Lright) l_Lright c_Lright k_Lright).binds (ps := ["pool"]) fun _ _ _ _ _ _ us hl => match us, hl with | [_], _ => rfl)⟩, fa, _, ⟨(fun_mk (st := s_law) l_law c_law k_law), PySem.W.mg_of X G a_law, ((fun_mk (st := s_law) l_law c_law k_law).binds (ps := ["script"]) fun _ _ _ _ _ _ us hl => match us, hl with | [_], _ => rfl)⟩, (Fun.kb (ps := ["book", "width"]) (ks := ["width", "book"]) (pm := [1, 0]) (fun_mk (st := s_strictest_least) l_strictest_least c_strictest_least k_strictest_least) fun _ _ _ _ _ _ us hl => match us, hl with | [_, _], _ => rfl), (Fun.kb (ps := ["book", "width"]) (ks := ["width", "book"]) (pm := [1, 0]) (fun_mk (st := s_strictest_most) l_strictest_most c_strictest_most k_strictest_most) fun _ _ _ _ _ _ us hl => match us, hl with | [_, _], _ => rfl), PySem.W.mg_none_of X G z_ValueError, PySem.W.mg_none_of X G z_abs, PySem.W.mg_none_of X G z_enumerate, PySem.W.mg_none_of X G z_int, PySem.W.mg_none_of X G z_isinstance, PySem.W.mg_none_of X G z_len, PySem.W.mg_none_of X G z_list, PySem.W.mg_none_of X G z_max, PySem.W.mg_none_of X G z_min, PySem.W.mg_none_of X G z_range, PySem.W.mg_none_of X G z_repr, PySem.W.mg_none_of X G z_super⟩ : TX l.prog K mg), rfl, rfl⟩
  refine ⟨PySem.W.fnOf "law" "law" (defArgs s_law) (defBody s_law) (defScope s_law) .none kV_law dc_law pm_law an_law cd_law ct_law, SG K mg T, fun s v => .of_eq rfl, fun base _ _ => ?_⟩
  rw [← e1, ← e2]
  exact ok_law T
end LW

open PySem PySem.W PyProof.Rows in
set_option maxRecDepth 100000 in
set_option maxHeartbeats 0 in
theorem PySem.Challenge.cw_everyspan_k20_errors_of_strictness_holds : PySem.Challenge.rw_everyspan_k20_errors_of_strictness.Holds := by
  w_on; o_law; k_head; (case hw => w_witness2)
  k_fill
  refine EV.walkG (l := PySem.Challenge.rw_everyspan_k20_errors_of_strictness) (n := 63) (k := 7) (x := "script") (fn := LW.f_law) rfl (by decide) rfl ⟨rfl, by decide, by decide⟩ (fun w h Y => PySem.W.kIn_of Y) ?F LW.law_true
  case F =>
    intro w mg fa h KX G hmg
    refine' LW.all_mk KX G hmg ?mc_Book ?pg_Book ?hd_Book ?po_Book ?sa_Book ?mc_SpanError ?mc_InvalidDays ?mc_InvalidRule ?mc_InvalidLength ?mc_InvalidNumber ?mc_InvalidKnown ?mc_InvalidDay ?mc_NoRows ?mc_Contradiction ?mc_TooMany ?mc_NothingToUndo ?mc_Unreadable ?a_ini ?l_ini ?c_ini ?x_ini ?y_ini ?v_ini ?f_ini ?d_ini ?t_ini ?eb_InvalidDays ?eb_InvalidRule ?eb_InvalidLength ?eb_NoRows ?kt_Lflags_0_NoRows ?kt_Lflags_0_InvalidLength ?kt_Lflags_1_NoRows ?kt_Lflags_1_InvalidLength ?kt_Lflags_2_NoRows ?kt_Lflags_2_InvalidLength ?kt_Lflags_3_NoRows ?kt_Lflags_3_InvalidLength ?kt_Lflags_4_NoRows ?kt_Lflags_4_InvalidLength ?nf_Book_bounds ?nf_Book_lower ?nf_Book_upper ?ia_Book ?in_Book ?it_Book ?im_Book ?a_Lpool ?l_Lpool ?c_Lpool ?k_Lpool ?a_Ldraw ?l_Ldraw ?c_Ldraw ?k_Ldraw ?a_Lkind ?l_Lkind ?c_Lkind ?k_Lkind ?a_Book_eq ?i_Book_eq ?l_Book_eq ?c_Book_eq ?k_Book_eq ?a_is_rule ?l_is_rule ?c_is_rule ?k_is_rule ?a_Book_init ?i_Book_init ?l_Book_init ?c_Book_init ?k_Book_init ?mk_Book ?kc_Book ?a_Lmade ?l_Lmade ?c_Lmade ?k_Lmade ?a_Lbounds ?l_Lbounds ?c_Lbounds ?k_Lbounds ?a_Lconflict ?l_Lconflict ?c_Lconflict ?k_Lconflict ?a_check_length ?l_check_length ?c_check_length ?k_check_length ?a_Book_conflict ?i_Book_conflict ?l_Book_conflict ?c_Book_conflict ?k_Book_conflict ?a_check_rows ?l_check_rows ?c_check_rows ?k_check_rows ?a_in_lowest_terms ?l_in_lowest_terms ?c_in_lowest_terms ?k_in_lowest_terms ?a_shares ?l_shares ?c_shares ?k_shares ?a_strictest_least ?l_strictest_least ?c_strictest_least ?k_strictest_least ?a_Lflags ?l_Lflags ?c_Lflags ?k_Lflags ?a_strictest_most ?l_strictest_most ?c_strictest_most ?k_strictest_most ?a_Lcaught ?l_Lcaught ?c_Lcaught ?k_Lcaught ?a_Lright ?l_Lright ?c_Lright ?k_Lright ?a_law ?l_law ?c_law ?k_law ?z_ValueError ?z_abs ?z_enumerate ?z_int ?z_isinstance ?z_len ?z_list ?z_max ?z_min ?z_range ?z_repr ?z_super
    (case mc_Book => k_is)
    (case pg_Book => k_is)
    (case hd_Book => k_is)
    (case po_Book => k_is)
    (case sa_Book => k_is)
    (case mc_SpanError => k_is)
    (case mc_InvalidDays => k_is)
    (case mc_InvalidRule => k_is)
    (case mc_InvalidLength => k_is)
    (case mc_InvalidNumber => k_is)
    (case mc_InvalidKnown => k_is)
    (case mc_InvalidDay => k_is)
    (case mc_NoRows => k_is)
    (case mc_Contradiction => k_is)
    (case mc_TooMany => k_is)
    (case mc_NothingToUndo => k_is)
    (case mc_Unreadable => k_is)
    (case a_ini => k_is)
    (case l_ini => k_is)
    (case c_ini => k_is)
    (case x_ini => k_is)
    (case y_ini => k_is)
    (case v_ini => exact rfl)
    (case f_ini => kernel_rfl)
    (case d_ini => kernel_rfl)
    (case t_ini => kernel_rfl)
    (case eb_InvalidDays => kernel_rfl)
    (case eb_InvalidRule => kernel_rfl)
    (case eb_InvalidLength => kernel_rfl)
    (case eb_NoRows => kernel_rfl)
    (case kt_Lflags_0_NoRows => kernel_rfl)
    (case kt_Lflags_0_InvalidLength => kernel_rfl)
    (case kt_Lflags_1_NoRows => kernel_rfl)
    (case kt_Lflags_1_InvalidLength => kernel_rfl)
    (case kt_Lflags_2_NoRows => kernel_rfl)
    (case kt_Lflags_2_InvalidLength => kernel_rfl)
    (case kt_Lflags_3_NoRows => kernel_rfl)
    (case kt_Lflags_3_InvalidLength => kernel_rfl)
    (case kt_Lflags_4_NoRows => kernel_rfl)
    (case kt_Lflags_4_InvalidLength => kernel_rfl)
    (case nf_Book_bounds => k_is)
    (case nf_Book_lower => k_is)
    (case nf_Book_upper => k_is)
    (case ia_Book => k_is)
    (case in_Book => k_is)
    (case it_Book => k_is)
    (case im_Book => k_is)
    (case a_Lpool => k_is)
    (case l_Lpool => k_is)
    (case c_Lpool => k_is)
    (case k_Lpool => k_is)
    (case a_Ldraw => k_is)
    (case l_Ldraw => k_is)
    (case c_Ldraw => k_is)
    (case k_Ldraw => k_is)
    (case a_Lkind => k_is)
    (case l_Lkind => k_is)
    (case c_Lkind => k_is)
    (case k_Lkind => k_is)
    (case a_Book_eq => k_is)
    (case i_Book_eq => k_is)
    (case l_Book_eq => k_is)
    (case c_Book_eq => k_is)
    (case k_Book_eq => k_is)
    (case a_is_rule => k_is)
    (case l_is_rule => k_is)
    (case c_is_rule => k_is)
    (case k_is_rule => k_is)
    (case a_Book_init => k_is)
    (case i_Book_init => k_is)
    (case l_Book_init => k_is)
    (case c_Book_init => k_is)
    (case k_Book_init => k_is)
    (case mk_Book => k_is)
    (case kc_Book => k_is)
    (case a_Lmade => k_is)
    (case l_Lmade => k_is)
    (case c_Lmade => k_is)
    (case k_Lmade => k_is)
    (case a_Lbounds => k_is)
    (case l_Lbounds => k_is)
    (case c_Lbounds => k_is)
    (case k_Lbounds => k_is)
    (case a_Lconflict => k_is)
    (case l_Lconflict => k_is)
    (case c_Lconflict => k_is)
    (case k_Lconflict => k_is)
    (case a_check_length => k_is)
    (case l_check_length => k_is)
    (case c_check_length => k_is)
    (case k_check_length => k_is)
    (case a_Book_conflict => k_is)
    (case i_Book_conflict => k_is)
    (case l_Book_conflict => k_is)
    (case c_Book_conflict => k_is)
    (case k_Book_conflict => k_is)
    (case a_check_rows => k_is)
    (case l_check_rows => k_is)
    (case c_check_rows => k_is)
    (case k_check_rows => k_is)
    (case a_in_lowest_terms => k_is)
    (case l_in_lowest_terms => k_is)
    (case c_in_lowest_terms => k_is)
    (case k_in_lowest_terms => k_is)
    (case a_shares => k_is)
    (case l_shares => k_is)
    (case c_shares => k_is)
    (case k_shares => k_is)
    (case a_strictest_least => k_is)
    (case l_strictest_least => k_is)
    (case c_strictest_least => k_is)
    (case k_strictest_least => k_is)
    (case a_Lflags => k_is)
    (case l_Lflags => k_is)
    (case c_Lflags => k_is)
    (case k_Lflags => k_is)
    (case a_strictest_most => k_is)
    (case l_strictest_most => k_is)
    (case c_strictest_most => k_is)
    (case k_strictest_most => k_is)
    (case a_Lcaught => k_is)
    (case l_Lcaught => k_is)
    (case c_Lcaught => k_is)
    (case k_Lcaught => k_is)
    (case a_Lright => k_is)
    (case l_Lright => k_is)
    (case c_Lright => k_is)
    (case k_Lright => k_is)
    (case a_law => k_is)
    (case l_law => k_is)
    (case c_law => k_is)
    (case k_law => k_is)
    (case z_ValueError => k_is)
    (case z_abs => k_is)
    (case z_enumerate => k_is)
    (case z_int => k_is)
    (case z_isinstance => k_is)
    (case z_len => k_is)
    (case z_list => k_is)
    (case z_max => k_is)
    (case z_min => k_is)
    (case z_range => k_is)
    (case z_repr => k_is)
    (case z_super => k_is)
#print axioms PySem.Challenge.cw_everyspan_k20_errors_of_strictness_holds

