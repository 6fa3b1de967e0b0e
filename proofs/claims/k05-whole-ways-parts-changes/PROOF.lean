import PyProof.Rows.All
import Wide.All
import OpenK.AllK
import Wide.FinOn
import HandS.ForMost
import HandS.Exc
import HandS.TryOnly
import HandS.ExcOwn
import HandS.WordsExc
import HandS.Deep
import HandS.IsInst
import HandS.Flow
import HandS.Style
import HandS.TupAny
import HandS.Small
import HandS.Zip
import HandS.Conv
import HandS.TupSets
import KE.KDictDisplayH
import KE.KDictSum
import PySem.Challenge.RW_eachhandtied_k05_whole_ways_parts_change
import HandS.ExcIs
set_option Elab.async false
set_option linter.all false
set_option maxRecDepth 100000
set_option maxHeartbeats 4000000
/-! Dat1: values as data. A layer over HandS: a reading evaluates to data; statements as triples over entries. -/
namespace G
open PySem L2
abbrev D := PyData
abbrev P2 := Int × Int
abbrev dP (p : P2) : D := .tuple [.int p.1, .int p.2]

/-! ### what data a value is, by tracked objects alone -/
mutual
inductive Dd (H : Hp) : V → D → Prop
  | non : Dd H .non .none
  | bl (b : Bool) : Dd H (.bl b) (.bool b)
  | int (i : Int) : Dd H (.int i) (.int i)
  | str (x : Str) : Dd H (.str x) (.str x)
  | lst {a : Addr} {xs : List V} {ds : List D} : H a = some (.lst xs) → DdAll H xs ds → Dd H (.ref a) (.list ds)
  | tup {a : Addr} {xs : List V} {ds : List D} : H a = some (.tup xs) → DdAll H xs ds → Dd H (.ref a) (.tuple ds)
inductive DdAll (H : Hp) : List V → List D → Prop
  | nil : DdAll H [] []
  | cons {v : V} {vs : List V} {d : D} {ds : List D} : Dd H v d → DdAll H vs ds → DdAll H (v :: vs) (d :: ds)
end
mutual
theorem Dd.mono {H H' : Hp} (e : Same H H') : ∀ {v : V} {d : D}, Dd H v d → Dd H' v d
  | _, _, .non => .non
  | _, _, .bl b => .bl b
  | _, _, .int i => .int i
  | _, _, .str x => .str x
  | _, _, .lst h a => .lst (e _ _ h) (DdAll.mono e a)
  | _, _, .tup h a => .tup (e _ _ h) (DdAll.mono e a)
theorem DdAll.mono {H H' : Hp} (e : Same H H') : ∀ {v : List V} {d : List D}, DdAll H v d → DdAll H' v d
  | _, _, .nil => .nil
  | _, _, .cons h t => .cons (Dd.mono e h) (DdAll.mono e t)
end
mutual
theorem Dd.dp {K : PySem.W.Frag} {H : Hp} : ∀ {v : V} {d : D}, Dd H v d → Dp K H v d
  | _, _, .non => .non
  | _, _, .bl b => .bl b
  | _, _, .int i => .int i
  | _, _, .str x => .str x
  | _, _, .lst h a => .lst (SqL.of h) (DdAll.dp a)
  | _, _, .tup h a => .tup (SqT.of h) (DdAll.dp a)
theorem DdAll.dp {K : PySem.W.Frag} {H : Hp} : ∀ {v : List V} {d : List D}, DdAll H v d → DpAll K H v d
  | _, _, .nil => .nil
  | _, _, .cons h t => .cons (Dd.dp h) (DdAll.dp t)
end
theorem DdAll.length {H : Hp} : ∀ {xs : List V} {ds : List D}, DdAll H xs ds → xs.length = ds.length
  | _, _, .nil => rfl
  | _, _, .cons _ t => by simp [DdAll.length t]
theorem DdAll.append {H : Hp} : ∀ {xs ys : List V} {ds es : List D}, DdAll H xs ds → DdAll H ys es → DdAll H (xs ++ ys) (ds ++ es)
  | _, _, _, _, .nil, s => s
  | _, _, _, _, .cons h t, s => .cons h (DdAll.append t s)
theorem DdAll.get {H : Hp} : ∀ {xs : List V} {ds : List D} {i : Nat} {d : D}, DdAll H xs ds → ds[i]? = some d → ∃ x, xs[i]? = some x ∧ Dd H x d
  | _, _, _, _, .nil, e => by simp at e
  | _, _, 0, _, .cons h _, e => by simp at e; subst e; exact ⟨_, rfl, h⟩
  | _, _, i + 1, d, .cons _ t, e => by
    obtain ⟨x, h1, h2⟩ := DdAll.get (i := i) (d := d) t (by simpa using e)
    exact ⟨x, by simpa using h1, h2⟩
theorem DdAll.getV {H : Hp} : ∀ {xs : List V} {ds : List D} {i : Nat} {x : V}, DdAll H xs ds → xs[i]? = some x → ∃ d, ds[i]? = some d ∧ Dd H x d
  | _, _, _, _, .nil, e => by simp at e
  | _, _, 0, _, .cons h _, e => by simp at e; subst e; exact ⟨_, rfl, h⟩
  | _, _, i + 1, d, .cons _ t, e => by
    obtain ⟨x, h1, h2⟩ := DdAll.getV (i := i) t (by simpa using e)
    exact ⟨x, by simpa using h1, h2⟩
theorem DdAll.ints {H : Hp} : ∀ {xs : List V} {ns : List Int}, DdAll H xs (ns.map PyData.int) → xs = ns.map V.int
  | _, [], h => by cases h; rfl
  | _, n :: ns, h => by
    cases h with
    | cons a b => cases a; rw [DdAll.ints b]; rfl
theorem DdAll.of_ints {H : Hp} : ∀ (ns : List Int), DdAll H (ns.map V.int) (ns.map PyData.int)
  | [] => .nil
  | n :: ns => .cons (.int n) (DdAll.of_ints ns)
theorem DdAll.eraseIdx {H : Hp} : ∀ {xs : List V} {ds : List D} (k : Nat), DdAll H xs ds → DdAll H (xs.eraseIdx k) (ds.eraseIdx k)
  | _, _, _, .nil => .nil
  | _, _, 0, .cons _ t => t
  | _, _, k + 1, .cons h t => .cons h (DdAll.eraseIdx k t)
theorem DdAll.set {H : Hp} {v : V} {d : D} (hv : Dd H v d) : ∀ {xs : List V} {ds : List D} (k : Nat), DdAll H xs ds → DdAll H (xs.set k v) (ds.set k d)
  | _, _, _, .nil => .nil
  | _, _, 0, .cons _ t => .cons hv t
  | _, _, k + 1, .cons h t => .cons h (DdAll.set hv k t)
theorem DdAll.reverse {H : Hp} : ∀ {xs : List V} {ds : List D}, DdAll H xs ds → DdAll H xs.reverse ds.reverse
  | _, _, .nil => .nil
  | _, _, .cons h t => by rw [List.reverse_cons, List.reverse_cons]; exact (DdAll.reverse t).append (.cons h .nil)

/-! ### entries -/
inductive Mu where
  | l (ds : List D)
  | t (kvs : List (P2 × D))
  | tin (n : Nat)
inductive En where
  | un
  | d (x : D)
  | ft (kvs : List (P2 × D))
  | raw (v : V)
  | m (u : Mu)
/-- what a def's body stands on: K, what it may change of the caller's, the caller's frozen part, the heap at the entry -/
structure Bs where
  K : PySem.W.Frag
  T : Addr → Prop
  I0 : Hp
  H0 : Hp
abbrev T0 : Addr → Prop := fun _ => False
/-- not a tuple -/
def NT (o : HO) : Prop := ∀ xs, o ≠ .tup xs
/-- I the part that never changes again, H the heap; both grow -/
structure Gr (T : Addr → Prop) (I H I' H' : Hp) : Prop where
  i : Same I I'
  h : ∀ b o, H b = some o → ¬ T b → H' b = some o
  s : Same I' H'
  n : ∀ p o, H p = some o → NT o → I p = none → I' p = none
  d : ∀ p o, H p = some o → ∃ o', H' p = some o' ∧ (NT o → NT o')
section
variable {T : Addr → Prop} {I H I' H' I1 H1 I2 H2 I0 H0 : Hp} {p : Addr} {o : HO}
theorem Gr.refl (s : Same I H) : Gr T I H I H := ⟨Same.refl _, fun _ _ e _ => e, s, fun _ _ _ _ k => k, fun _ o k => ⟨o, k, id⟩⟩
theorem Gr.trans (a : Gr T I H I1 H1) (b : Gr T I1 H1 I2 H2) : Gr T I H I2 H2 :=
  ⟨a.i.trans b.i, fun x o e t => b.h _ _ (a.h _ _ e t) t, b.s, fun p o h k z => by
    obtain ⟨o', h', k'⟩ := a.d p o h
    exact b.n p o' h' (k' k) (a.n p o h k z), fun p o h => by
    obtain ⟨o', h', k'⟩ := a.d p o h
    obtain ⟨o2, h2, k2⟩ := b.d p o' h'
    exact ⟨o2, h2, fun z => k2 (k' z)⟩⟩
theorem Gr.weak (a : Gr T0 I H I' H') : Gr T I H I' H' := ⟨a.i, fun x o e _ => a.h x o e (fun z => z), a.s, a.n, a.d⟩
theorem Gr.same (a : Gr T0 I H I' H') : Same H H' := fun x o e => a.h x o e (fun z => z)
theorem same_new {H : Hp} {p : Addr} (o : HO) (hp : H p = none) : Same H (upd H p o) := fun b u q => by rw [upd_ne (ne_of_none q hp)]; exact q
theorem none_of_same (s : Same I H) (hp : H p = none) : I p = none := Same.free s hp
theorem Gr.new (s : Same I H) (hp : H p = none) : Gr T I H (upd I p o) (upd H p o) := by
  refine ⟨same_new _ (none_of_same s hp), fun b u e _ => same_new _ hp b u e, fun b u e => ?_, fun q u hq _ k => ?_, fun q u hq => ⟨u, ?_, id⟩⟩
  · by_cases hb : b = p
    · subst hb; rw [upd_same] at e; rw [upd_same]; exact e
    · rw [upd_ne hb] at e; rw [upd_ne hb]; exact s b u e
  · rw [upd_ne (ne_of_none hq hp)]; exact k
  · rw [upd_ne (ne_of_none hq hp)]; exact hq
theorem Gr.newm (s : Same I H) (hp : H p = none) : Gr T I H I (upd H p o) := by
  refine ⟨Same.refl _, fun b u e _ => same_new _ hp b u e, s.trans (same_new _ hp), fun q u hq _ k => k, fun q u hq => ⟨u, ?_, id⟩⟩
  rw [upd_ne (ne_of_none hq hp)]; exact hq
/-- an own object is written -/
theorem Gr.wr (g : Gr T I0 H0 I H) (hI : I p = none) (ho : T p ∨ H0 p = none) (nt : NT o) : Gr T I0 H0 I (upd H p o) := by
  refine ⟨g.i, fun b u e t => ?_, fun b u e => ?_, g.n, fun q u hq => ?_⟩
  · have hb : b ≠ p := by
      rcases ho with z | z
      · exact fun y => t (by rw [y]; exact z)
      · exact ne_of_none e z
    rw [upd_ne hb]; exact g.h b u e t
  · rw [upd_ne (ne_of_none e hI)]; exact g.s b u e
  · by_cases hb : q = p
    · subst hb; exact ⟨o, upd_same, fun _ => nt⟩
    · rw [upd_ne hb]; exact g.d q u hq
/-- an own object is frozen -/
theorem Gr.frz (g : Gr T I0 H0 I H) (h0 : H0 p = none) (hI : I p = none) (hH : H p = some o) : Gr T I0 H0 (upd I p o) H := by
  refine ⟨g.i.trans (same_new _ hI), g.h, fun b u e => ?_, fun q u hq nt k => ?_, g.d⟩
  · by_cases hb : b = p
    · subst hb; rw [upd_same] at e; rw [hH]; exact e
    · rw [upd_ne hb] at e; exact g.s b u e
  · rw [upd_ne (ne_of_none hq h0)]; exact g.n q u hq nt k
/-- tuples of the heap are taken to what never changes -/
def addT (I H : Hp) (A : List Addr) : Hp := fun q => match I q with
  | some o => some o
  | none => if q ∈ A then H q else none
theorem addT_in {A : List Addr} {q : Addr} (s : Same I H) (h : q ∈ A) (e : H q = some o) : addT I H A q = some o := by
  unfold addT
  cases k : I q with
  | none => simp only; rw [if_pos h]; exact e
  | some u => simp only; rw [← e]; exact (s q u k).symm
theorem Gr.tups {A : List Addr} (s : Same I H) (hA : ∀ q ∈ A, ∃ xs, H q = some (.tup xs)) : Gr T I H (addT I H A) H := by
  refine ⟨fun b u e => ?_, fun b u e _ => e, fun b u e => ?_, fun q u hq nt k => ?_, fun q u hq => ⟨u, hq, id⟩⟩
  · unfold addT; rw [e]
  · unfold addT at e
    cases k : I b with
    | some u2 => rw [k] at e; simp only at e; rw [← e]; exact s b u2 k
    | none =>
      rw [k] at e
      simp only at e
      by_cases hb : b ∈ A
      · rw [if_pos hb] at e; exact e
      · rw [if_neg hb] at e; cases e
  · unfold addT
    rw [k]
    simp only
    rw [if_neg]
    intro hb
    obtain ⟨xs, z⟩ := hA q hb
    rw [hq] at z
    exact nt xs (Option.some.inj z)
end
abbrev K2 (p : P2) : List Key := [.inl p.1, .inl p.2]
abbrev KvOk (I : Hp) : List (List Key × V) → List (P2 × D) → Prop := Paired fun a b => a.1 = K2 b.1 ∧ Dd I a.2 b.2
theorem KvOk.mono {I I' : Hp} (e : Same I I') {a : List (List Key × V)} {b : List (P2 × D)} (h : KvOk I a b) : KvOk I' a b := Paired.mapP h fun _ _ z => ⟨z.1, z.2.mono e⟩
def MOk (I : Hp) : Mu → HO → Prop
  | .l ds, o => ∃ xs, o = .lst xs ∧ DdAll I xs ds
  | .t kvs, o => ∃ ks, o = .dT ks ∧ KvOk I ks kvs
  | .tin n, o => ∃ a b c : Int, o = .lst [.int a, .int b, .int c] ∧ 0 ≤ c ∧ c ≤ n
theorem MOk.mono {I I' : Hp} (e : Same I I') {u : Mu} {o : HO} (h : MOk I u o) : MOk I' u o := by
  cases u with
  | l ds => obtain ⟨xs, a, b⟩ := h; exact ⟨xs, a, b.mono e⟩
  | t kvs => obtain ⟨xs, a, b⟩ := h; exact ⟨xs, a, b.mono e⟩
  | tin n => exact h
theorem MOk.nt {I : Hp} {u : Mu} {o : HO} (h : MOk I u o) : NT o := by
  cases u with
  | l ds => obtain ⟨xs, rfl, _⟩ := h; exact fun _ z => nomatch z
  | t kvs => obtain ⟨xs, rfl, _⟩ := h; exact fun _ z => nomatch z
  | tin n => obtain ⟨a, b, c, rfl, _⟩ := h; exact fun _ z => nomatch z
def Own (B : Bs) (p : Addr) : Mu → Prop
  | .tin _ => B.T p
  | _ => B.H0 p = none
theorem Own.or {B : Bs} {p : Addr} {u : Mu} (h : Own B p u) : B.T p ∨ B.H0 p = none := by
  cases u with
  | l ds => exact .inr h
  | t ds => exact .inr h
  | tin n => exact .inl h
def EnOk (B : Bs) (I H : Hp) (v : V) : En → Prop
  | .un => True
  | .d x => Dd I v x
  | .ft kvs => ∃ p ks, v = .ref p ∧ I p = some (.dT ks) ∧ KvOk I ks kvs
  | .raw u => v = u
  | .m u => ∃ p o, v = .ref p ∧ I p = none ∧ Own B p u ∧ H p = some o ∧ MOk I u o
theorem EnOk.grow {B : Bs} {I H I' H' : Hp} (g : Gr T0 I H I' H') {v : V} {e : En} (h : EnOk B I H v e) : EnOk B I' H' v e := by
  cases e with
  | un => trivial
  | d x => exact Dd.mono g.i h
  | ft kvs => obtain ⟨p, ks, a, b, c⟩ := h; exact ⟨p, ks, a, g.i _ _ b, c.mono g.i⟩
  | raw u => exact h
  | m u => obtain ⟨p, o, a, b, c, d, f⟩ := h; exact ⟨p, o, a, g.n p o d f.nt b, c, g.same _ _ d, f.mono g.i⟩
abbrev Cell := Option V × En
/-- two cells that are one object that changes: never -/
def Apart (x y : Cell) : Prop := ∀ u w p, x.2 = .m u → y.2 = .m w → x.1 = some (.ref p) → y.1 = some (.ref p) → False
theorem Apart.symm {x y : Cell} (h : Apart x y) : Apart y x := fun u w p a b c d => h w u p b a d c
theorem Apart.l {x y : Cell} (h : ∀ u, x.2 ≠ .m u) : Apart x y := fun u _ _ a _ _ _ => h u a
structure Env (B : Bs) (I H : Hp) (L : List Cell) : Prop where
  ok : ∀ x ∈ L, x.2 ≠ .un → ∃ v, x.1 = some v ∧ EnOk B I H v x.2
  dj : L.Pairwise Apart
section
variable {B : Bs} {I H I' H' : Hp} {L L' : List Cell} {x : Cell}
theorem Env.grow (g : Gr T0 I H I' H') (h : Env B I H L) : Env B I' H' L := ⟨fun x hx k => by
  obtain ⟨v, a, b⟩ := h.ok x hx k
  exact ⟨v, a, b.grow g⟩, h.dj⟩
theorem Env.cons {v : V} {e : En} (h : Env B I H L) (k : EnOk B I H v e) (a : ∀ y ∈ L, Apart (some v, e) y) : Env B I H ((some v, e) :: L) :=
  ⟨fun x hx hn => by
    rcases List.mem_cons.mp hx with z | z
    · subst z; exact ⟨v, rfl, k⟩
    · exact h.ok x z hn, .cons a h.dj⟩
theorem Env.consD {v : V} {x : D} (h : Env B I H L) (k : Dd I v x) : Env B I H ((some v, .d x) :: L) := h.cons k fun _ _ => Apart.l fun _ z => nomatch z
theorem Env.consF {v : V} {x : List (P2 × D)} (h : Env B I H L) (k : EnOk B I H v (.ft x)) : Env B I H ((some v, .ft x) :: L) := h.cons k fun _ _ => Apart.l fun _ z => nomatch z
theorem Env.tail (h : Env B I H (x :: L)) : Env B I H L := ⟨fun y hy => h.ok y (List.mem_cons_of_mem _ hy), (List.pairwise_cons.mp h.dj).2⟩
theorem Env.perm (p : L.Perm L') (h : Env B I H L) : Env B I H L' :=
  ⟨fun y hy => h.ok y (p.mem_iff.mpr hy), (p.pairwise_iff (fun {x y} z => Apart.symm z)).mp h.dj⟩
theorem Env.sub (p : L'.Sublist L) (h : Env B I H L) : Env B I H L' := ⟨fun y hy => h.ok y (p.subset hy), h.dj.sublist p⟩
/-- cells may be forgotten, in place -/
theorem Env.wk {L1 L2 M : List Cell} (hl : L1.length = L2.length) (hw : ∀ (i : Nat) (x : Cell), L2[i]? = some x → x.2 = En.un ∨ L1[i]? = some x) (h : Env B I H (M ++ L1)) : Env B I H (M ++ L2) := by
  refine ⟨fun x hx hn => ?_, ?_⟩
  · rcases List.mem_append.mp hx with z | z
    · exact h.ok x (List.mem_append_left _ z) hn
    · obtain ⟨i, hi⟩ := List.getElem?_of_mem z
      rcases hw i x hi with k | k
      · exact absurd k hn
      · exact h.ok x (List.mem_append_right _ (List.mem_of_getElem? k)) hn
  · have hd := List.pairwise_append.mp h.dj
    refine List.pairwise_append.mpr ⟨hd.1, ?_, fun a ha b hb => ?_⟩
    · refine List.pairwise_iff_getElem.mpr fun i j hi hj hij => ?_
      have e1 : L2[i]? = some L2[i] := List.getElem?_eq_getElem hi
      have e2 : L2[j]? = some L2[j] := List.getElem?_eq_getElem hj
      rcases hw i _ e1 with k | k
      · exact Apart.l fun u z => by rw [k] at z; cases z
      · rcases hw j _ e2 with k2 | k2
        · exact Apart.symm (Apart.l fun u z => by rw [k2] at z; cases z)
        · obtain ⟨l1, q1⟩ := List.getElem?_eq_some_iff.mp k
          obtain ⟨l2, q2⟩ := List.getElem?_eq_some_iff.mp k2
          have := List.pairwise_iff_getElem.mp hd.2.1 i j l1 l2 hij
          rw [q1, q2] at this
          exact this
    · obtain ⟨i, hi⟩ := List.getElem?_of_mem hb
      rcases hw i b hi with k | k
      · exact Apart.symm (Apart.l fun u z => by rw [k] at z; cases z)
      · exact hd.2.2 a ha b (List.mem_of_getElem? k)
/-- the first cell is put in the place of the i-th behind -/
theorem Env.set {M : List Cell} (i : Nat) (h : Env B I H (x :: (M ++ L))) : Env B I H (M ++ L.set i x) := by
  have hc := List.pairwise_cons.mp h.dj
  have hd := List.pairwise_append.mp hc.2
  have mem : ∀ y ∈ L.set i x, y = x ∨ y ∈ L := fun y hy => by
    rcases List.mem_or_eq_of_mem_set hy with z | z
    · exact .inr z
    · exact .inl z
  refine ⟨fun y hy hn => ?_, List.pairwise_append.mpr ⟨hd.1, ?_, fun a ha b hb => ?_⟩⟩
  · rcases List.mem_append.mp hy with z | z
    · exact h.ok y (List.mem_cons_of_mem _ (List.mem_append_left _ z)) hn
    · rcases mem y z with k | k
      · subst k; exact h.ok _ List.mem_cons_self hn
      · exact h.ok y (List.mem_cons_of_mem _ (List.mem_append_right _ k)) hn
  · refine List.pairwise_iff_getElem.mpr fun a b ha hb hab => ?_
    have ha' : a < L.length := by simpa using ha
    have hb' : b < L.length := by simpa using hb
    rw [List.getElem_set, List.getElem_set]
    by_cases e1 : i = a
    · rw [if_pos e1, if_neg (by omega)]
      exact hc.1 _ (List.mem_append_right _ (List.getElem_mem hb'))
    · rw [if_neg e1]
      by_cases e2 : i = b
      · rw [if_pos e2]
        exact (hc.1 _ (List.mem_append_right _ (List.getElem_mem ha'))).symm
      · rw [if_neg e2]
        exact List.pairwise_iff_getElem.mp hd.2.1 a b ha' hb' hab
  · rcases mem b hb with k | k
    · subst k; exact (hc.1 a (List.mem_append_left _ ha)).symm
    · exact hd.2.2 a ha b k
end
/-- the state at a place of a body: slots σ as Γ says, temporaries ts -/
def Stt (B : Bs) (σ : L2.St) (Γ : List En) (ts : List Cell) (H : Hp) : Prop := σ.length = Γ.length ∧ ∃ I, Gr B.T B.I0 B.H0 I H ∧ Env B I H (ts ++ σ.zip Γ)
section
variable {B : Bs} {σ σ' : L2.St} {Γ Γ' : List En} {ts : List Cell} {H : Hp}
theorem zip_get {i : Nat} {e : En} (hl : σ.length = Γ.length) (h : Γ[i]? = some e) : ∃ o, σ[i]? = some o ∧ (σ.zip Γ)[i]? = some (o, e) := by
  obtain ⟨hi, he⟩ := List.getElem?_eq_some_iff.mp h
  have hs : i < σ.length := by omega
  refine ⟨σ[i], List.getElem?_eq_getElem hs, ?_⟩
  rw [List.getElem?_eq_getElem (by simp [List.length_zip]; omega), List.getElem_zip, he]
theorem zip_set {o : Option V} {e : En} : ∀ {σ : L2.St} {Γ : List En} {i : Nat}, (σ.set i o).zip (Γ.set i e) = (σ.zip Γ).set i (o, e)
  | [], _, _ => by simp
  | _ :: _, [], _ => by simp
  | _ :: _, _ :: _, 0 => by simp
  | _ :: σ, _ :: Γ, i + 1 => by simp [zip_set (σ := σ) (Γ := Γ) (i := i) (o := o) (e := e)]
theorem Stt.pop {x : Cell} (h : Stt B σ Γ (x :: ts) H) : Stt B σ Γ ts H := ⟨h.1, let ⟨I, g, e⟩ := h.2; ⟨I, g, e.tail⟩⟩
theorem Stt.perm {ts' : List Cell} (p : ts.Perm ts') (h : Stt B σ Γ ts H) : Stt B σ Γ ts' H := ⟨h.1, let ⟨I, g, e⟩ := h.2; ⟨I, g, e.perm (p.append_right _)⟩⟩
theorem Stt.sub {ts' : List Cell} (p : ts'.Sublist ts) (h : Stt B σ Γ ts H) : Stt B σ Γ ts' H := ⟨h.1, let ⟨I, g, e⟩ := h.2; ⟨I, g, e.sub (p.append_right _)⟩⟩
theorem Stt.set {i : Nat} {v : V} {e : En} (h : Stt B σ Γ ((some v, e) :: ts) H) : Stt B (σ.set i (some v)) (Γ.set i e) ts H :=
  ⟨by simp [h.1], let ⟨I, g, k⟩ := h.2; ⟨I, g, by rw [zip_set]; exact Env.set i k⟩⟩
/-- Γ may forget -/
def Wk (Γ Γ' : List En) : Prop := Γ.length = Γ'.length ∧ ∀ (i : Nat) (e : En), Γ'[i]? = some e → e = En.un ∨ Γ[i]? = some e
theorem Wk.refl (Γ : List En) : Wk Γ Γ := ⟨rfl, fun _ _ h => .inr h⟩
theorem Wk.nil : Wk [] [] := Wk.refl _
theorem Wk.cons {e : En} (h : Wk Γ Γ') : Wk (e :: Γ) (e :: Γ') := ⟨by simp [h.1], fun i x k => by
  cases i with
  | zero => exact .inr k
  | succ i => exact h.2 i x (by simpa using k)⟩
theorem Wk.un {e : En} (h : Wk Γ Γ') : Wk (e :: Γ) (.un :: Γ') := ⟨by simp [h.1], fun i x k => by
  cases i with
  | zero => exact .inl (by simpa using k.symm)
  | succ i => exact h.2 i x (by simpa using k)⟩
/-- slots that Γ' does not speak of do not matter -/
theorem Stt.to (hl : σ'.length = Γ'.length) (hl2 : Γ.length = Γ'.length) (hw : ∀ (i : Nat) (e : En), Γ'[i]? = some e → e = En.un ∨ (Γ[i]? = some e ∧ σ'[i]? = σ[i]?)) (h : Stt B σ Γ ts H) : Stt B σ' Γ' ts H := by
  obtain ⟨h1, I, g, e⟩ := h
  refine ⟨hl, I, g, e.wk (by simp [List.length_zip]; omega) fun i x hx => ?_⟩
  obtain ⟨hi, hx⟩ := List.getElem?_eq_some_iff.mp hx
  have hi1 : i < Γ'.length := by simp [List.length_zip] at hi; omega
  have hi2 : i < σ'.length := by omega
  rw [List.getElem_zip] at hx
  rcases hw i Γ'[i] (List.getElem?_eq_getElem hi1) with k | ⟨k, k2⟩
  · left; rw [← hx]; exact k
  · right
    obtain ⟨o, e1, e2⟩ := zip_get h1 k
    rw [e2, ← hx]
    rw [e1, List.getElem?_eq_getElem hi2] at k2
    rw [Option.some.inj k2]
theorem Stt.wk (hw : Wk Γ Γ') (h : Stt B σ Γ ts H) : Stt B σ Γ' ts H := h.to (by rw [h.1, hw.1]) hw.1 fun i e k => (hw.2 i e k).imp (fun z => z) fun z => ⟨z, rfl⟩
theorem Stt.get {i : Nat} {x : D} (h : Stt B σ Γ ts H) (k : Γ[i]? = some (.d x)) : ∃ v, σ[i]? = some (some v) ∧ Stt B σ Γ ((some v, .d x) :: ts) H := by
  obtain ⟨h1, I, g, e⟩ := h
  obtain ⟨o, e1, e2⟩ := zip_get h1 k
  obtain ⟨v, hv, hd⟩ := e.ok _ (List.mem_append_right _ (List.mem_of_getElem? e2)) (fun z => nomatch z)
  have hv : o = some v := hv
  subst hv
  exact ⟨v, e1, h1, I, g, e.consD hd⟩
theorem Stt.getF {i : Nat} {x : List (P2 × D)} (h : Stt B σ Γ ts H) (k : Γ[i]? = some (.ft x)) : ∃ v, σ[i]? = some (some v) ∧ Stt B σ Γ ((some v, .ft x) :: ts) H := by
  obtain ⟨h1, I, g, e⟩ := h
  obtain ⟨o, e1, e2⟩ := zip_get h1 k
  obtain ⟨v, hv, hd⟩ := e.ok _ (List.mem_append_right _ (List.mem_of_getElem? e2)) (fun z => nomatch z)
  have hv : o = some v := hv
  subst hv
  exact ⟨v, e1, h1, I, g, e.consF hd⟩
/-- what the first temporary is -/
theorem Stt.top {v : V} {x : D} (h : Stt B σ Γ ((some v, .d x) :: ts) H) : Dd H v x := by
  obtain ⟨h1, I, g, e⟩ := h
  obtain ⟨v', hv, hd⟩ := e.ok _ List.mem_cons_self (fun z => nomatch z)
  have hv : some v = some v' := hv
  cases hv
  exact Dd.mono g.s hd
end
end G

set_option Elab.async false
set_option linter.all false
set_option maxRecDepth 100000
set_option maxHeartbeats 4000000
/-! Dat2: readings evaluate to data; statements as triples. -/
namespace G
open PySem L2

theorem sz_of {n : Nat} (h : n ≤ 100000) : n ≤ sizeLine := Nat.le_trans h (by decide)
theorem sz_lt {n : Nat} (h : n < 100000) : n < sizeLine := Nat.lt_of_lt_of_le h (by decide)
section
variable {B : Bs} {σ : L2.St} {Γ : List En} {ts : List Cell} {H : Hp}
/-! ### the state's lemmas -/
theorem Stt.fin {I I' H' : Hp} {v : V} {x : D} (hl : σ.length = Γ.length) (g0 : Gr B.T B.I0 B.H0 I H) (e : Env B I H (ts ++ σ.zip Γ)) (g : Gr T0 I H I' H') (k : Dd I' v x) :
    Stt B σ Γ ((some v, .d x) :: ts) H' := ⟨hl, I', g0.trans g.weak, (e.grow g).consD k⟩
theorem Stt.finF {I I' H' : Hp} {v : V} {x : List (P2 × D)} (hl : σ.length = Γ.length) (g0 : Gr B.T B.I0 B.H0 I H) (e : Env B I H (ts ++ σ.zip Γ)) (g : Gr T0 I H I' H') (k : EnOk B I' H' v (.ft x)) :
    Stt B σ Γ ((some v, .ft x) :: ts) H' := ⟨hl, I', g0.trans g.weak, (e.grow g).consF k⟩
/-- a heap-free datum -/
theorem Stt.pushV {v : V} {x : D} (h : Stt B σ Γ ts H) (k : ∀ I, Dd I v x) : Stt B σ Γ ((some v, .d x) :: ts) H := by
  obtain ⟨hl, I, g, e⟩ := h
  exact Stt.fin hl g e (Gr.refl g.s) (k I)
/-- a new object of our own that will change -/
theorem Stt.newM {p : Addr} {o : HO} {u : Mu} (h : Stt B σ Γ ts H) (hp : H p = none) (ho : ∀ I, Same I H → (∀ x ∈ ts ++ σ.zip Γ, x.2 ≠ .un → ∃ v, x.1 = some v ∧ EnOk B I H v x.2) → MOk I u o) (hu : ∀ n, u ≠ .tin n) :
    Stt B σ Γ ((some (.ref p), .m u) :: ts) (upd H p o) := by
  obtain ⟨hl, I, g, e⟩ := h
  have g2 : Gr T0 I H I (upd H p o) := Gr.newm g.s hp
  have h0 : B.H0 p = none := by
    cases q : B.H0 p with
    | none => rfl
    | some o => obtain ⟨o', z, _⟩ := g.d p o q; rw [hp] at z; cases z
  have hI : I p = none := none_of_same g.s hp
  refine ⟨hl, I, g.trans g2.weak, (e.grow g2).cons ⟨p, o, rfl, hI, ?_, upd_same, ho I g.s e.ok⟩ fun y hy u' w q a b c d => ?_⟩
  · cases u with
    | l ds => exact h0
    | t ds => exact h0
    | tin n => exact absurd rfl (hu n)
  · have c : V.ref p = V.ref q := Option.some.inj c
    injection c with c
    subst c
    obtain ⟨v, hv, hk⟩ := e.ok y hy (by rw [b]; exact fun z => nomatch z)
    rw [b] at hk
    obtain ⟨p', o', e1, _, _, e4, _⟩ := hk
    rw [d] at hv
    have hv := Option.some.inj hv
    subst hv
    injection e1 with e1
    subst e1
    rw [hp] at e4
    cases e4
/-- an own object freezes -/
theorem Stt.frz {v : V} {ds : List D} (h : Stt B σ Γ ((some v, .m (.l ds)) :: ts) H) : Stt B σ Γ ((some v, .d (.list ds)) :: ts) H := by
  obtain ⟨hl, I, g, e⟩ := h
  obtain ⟨v', hv, p, o, e1, hI, ow, hH, xs, eo, hx⟩ := e.ok _ List.mem_cons_self (fun z => nomatch z)
  have hv : v = v' := Option.some.inj hv
  subst hv e1 eo
  have hd := List.pairwise_cons.mp e.dj
  have g2 : Gr B.T B.I0 B.H0 (upd I p (.lst xs)) H := Gr.frz g ow hI hH
  have s2 : Same I (upd I p (.lst xs)) := same_new _ hI
  refine ⟨hl, _, g2, Env.consD ⟨fun y hy hn => ?_, hd.2⟩ (.lst upd_same (hx.mono s2))⟩
  obtain ⟨w, hw, k⟩ := e.ok y (List.mem_cons_of_mem _ hy) hn
  refine ⟨w, hw, ?_⟩
  have ap := hd.1 y hy
  obtain ⟨yc, ye⟩ := y
  dsimp only at k hw ap ⊢
  cases ye with
  | un => trivial
  | d x => exact Dd.mono s2 k
  | ft x => obtain ⟨q, ks, a, b, c⟩ := k; exact ⟨q, ks, a, s2 _ _ b, c.mono s2⟩
  | raw u => exact k
  | m u =>
    obtain ⟨q, o, a, b, c, d, f⟩ := k
    refine ⟨q, o, a, ?_, c, d, f.mono s2⟩
    rw [upd_ne]
    · exact b
    · intro z
      subst z
      rw [hw, a] at ap
      exact ap _ _ q rfl rfl rfl rfl
theorem Stt.frzT {v : V} {ds : List (P2 × D)} (h : Stt B σ Γ ((some v, .m (.t ds)) :: ts) H) : Stt B σ Γ ((some v, .ft ds) :: ts) H := by
  obtain ⟨hl, I, g, e⟩ := h
  obtain ⟨v', hv, p, o, e1, hI, ow, hH, xs, eo, hx⟩ := e.ok _ List.mem_cons_self (fun z => nomatch z)
  have hv : v = v' := Option.some.inj hv
  subst hv e1 eo
  have hd := List.pairwise_cons.mp e.dj
  have g2 : Gr B.T B.I0 B.H0 (upd I p (.dT xs)) H := Gr.frz g ow hI hH
  have s2 : Same I (upd I p (.dT xs)) := same_new _ hI
  refine ⟨hl, _, g2, Env.consF ⟨fun y hy hn => ?_, hd.2⟩ ⟨p, xs, rfl, upd_same, KvOk.mono s2 hx⟩⟩
  obtain ⟨w, hw, k⟩ := e.ok y (List.mem_cons_of_mem _ hy) hn
  refine ⟨w, hw, ?_⟩
  have ap := hd.1 y hy
  obtain ⟨yc, ye⟩ := y
  dsimp only at k hw ap ⊢
  cases ye with
  | un => trivial
  | d x => exact Dd.mono s2 k
  | ft x => obtain ⟨q, ks, a, b, c⟩ := k; exact ⟨q, ks, a, s2 _ _ b, c.mono s2⟩
  | raw u => exact k
  | m u =>
    obtain ⟨q, o, a, b, c, d, f⟩ := k
    refine ⟨q, o, a, ?_, c, d, f.mono s2⟩
    rw [upd_ne]
    · exact b
    · intro z
      subst z
      rw [hw, a] at ap
      exact ap _ _ q rfl rfl rfl rfl
/-- an own object (on top) is written -/
theorem Stt.wr {p : Addr} {u u' : Mu} {o' : HO} (h : Stt B σ Γ ((some (.ref p), .m u) :: ts) H) (hu : ∀ q, Own B q u → Own B q u')
    (ho : ∀ I, Same I H → (∀ o, H p = some o → MOk I u o) → (∀ x ∈ ts ++ σ.zip Γ, x.2 ≠ .un → ∃ v, x.1 = some v ∧ EnOk B I H v x.2) → MOk I u' o') : Stt B σ Γ ((some (.ref p), .m u') :: ts) (upd H p o') := by
  obtain ⟨hl, I, g, e⟩ := h
  obtain ⟨v', hv, q, o, e1, hI, ow, hH, mo⟩ := e.ok _ List.mem_cons_self (fun z => nomatch z)
  have hv : V.ref p = v' := Option.some.inj hv
  subst hv
  injection e1 with e1
  subst e1
  have hd := List.pairwise_cons.mp e.dj
  have et := e.tail
  have hm : MOk I u' o' := ho I g.s (fun o2 h2 => by rw [hH] at h2; cases h2; exact mo) et.ok
  refine ⟨hl, I, Gr.wr g hI ow.or hm.nt, Env.cons ⟨fun y hy hn => ?_, et.dj⟩ ⟨p, o', rfl, hI, hu _ ow, upd_same, hm⟩ fun y hy a b c d1 d2 d3 d4 => hd.1 y hy u b c rfl d2 d3 d4⟩
  obtain ⟨w, hw, k⟩ := et.ok y hy hn
  refine ⟨w, hw, ?_⟩
  have ap := hd.1 y hy
  obtain ⟨yc, ye⟩ := y
  dsimp only at k hw ap ⊢
  cases ye with
  | un => trivial
  | d x => exact k
  | ft x => exact k
  | raw u => exact k
  | m u2 =>
    obtain ⟨q, o2, a, b, c, d, f⟩ := k
    refine ⟨q, o2, a, b, c, ?_, f⟩
    rw [upd_ne]
    · exact d
    · intro z
      subst z
      rw [hw, a] at ap
      exact ap _ _ q rfl rfl rfl rfl
/-- what an own object (on top) is -/
theorem Stt.topM {v : V} {u : Mu} (h : Stt B σ Γ ((some v, .m u) :: ts) H) : ∃ p I o, v = .ref p ∧ Same I H ∧ H p = some o ∧ MOk I u o ∧ Own B p u := by
  obtain ⟨hl, I, g, e⟩ := h
  obtain ⟨v', hv, p, o, e1, hI, ow, hH, m⟩ := e.ok _ List.mem_cons_self (fun z => nomatch z)
  have hv : v = v' := Option.some.inj hv
  subst hv
  exact ⟨p, I, o, e1, g.s, hH, m, ow⟩
theorem Stt.topF {v : V} {u : List (P2 × D)} (h : Stt B σ Γ ((some v, .ft u) :: ts) H) : ∃ p ks I, v = .ref p ∧ Same I H ∧ I p = some (.dT ks) ∧ KvOk I ks u := by
  obtain ⟨hl, I, g, e⟩ := h
  obtain ⟨v', hv, p, ks, e1, hI, m⟩ := e.ok _ List.mem_cons_self (fun z => nomatch z)
  have hv : v = v' := Option.some.inj hv
  subst hv
  exact ⟨p, ks, I, e1, g.s, hI, m⟩
theorem set_self {α : Type} : ∀ {l : List α} {i : Nat} {x : α}, l[i]? = some x → l.set i x = l
  | [], _, _, h => by simp at h
  | a :: l, 0, x, h => by simp at h; simp [h]
  | a :: l, i + 1, x, h => by simp; exact set_self (by simpa using h)
/-- a slot's object is taken out -/
theorem Stt.out {i : Nat} {u : Mu} (h : Stt B σ Γ ts H) (k : Γ[i]? = some (.m u)) : ∃ p, σ[i]? = some (some (.ref p)) ∧ Stt B σ (Γ.set i .un) ((some (.ref p), .m u) :: ts) H := by
  obtain ⟨hl, I, g, e⟩ := h
  obtain ⟨o, e1, e2⟩ := zip_get hl k
  obtain ⟨v, hv, hd⟩ := e.ok _ (List.mem_append_right _ (List.mem_of_getElem? e2)) (fun z => nomatch z)
  have hv : o = some v := hv
  subst hv
  obtain ⟨p, o', e3, hr⟩ := id hd
  have e3 : v = .ref p := e3
  subst e3
  refine ⟨p, e1, by simpa using hl, I, g, ?_⟩
  obtain ⟨hi, he⟩ := List.getElem?_eq_some_iff.mp k
  have hiz : i < (σ.zip Γ).length := (List.getElem?_eq_some_iff.mp e2).1
  have ez : (σ.zip Γ)[i] = (some (.ref p), .m u) := (List.getElem?_eq_some_iff.mp e2).2
  have es : σ.zip (Γ.set i .un) = (σ.zip Γ).set i (some (.ref p), .un) := by
    have z := zip_set (σ := σ) (Γ := Γ) (i := i) (o := some (.ref p)) (e := En.un)
    rw [set_self e1] at z
    exact z
  have dd := List.pairwise_append.mp e.dj
  rw [es]
  have hwk : Env B I H (ts ++ (σ.zip Γ).set i (some (.ref p), .un)) := e.wk (by simp) fun j x hx => by
    by_cases hj : i = j
    · subst hj
      rw [List.getElem?_set_self hiz] at hx
      left; rw [← Option.some.inj hx]
    · rw [List.getElem?_set_ne hj] at hx
      exact .inr hx
  refine hwk.cons hd fun y hy => ?_
  rcases List.mem_append.mp hy with z | z
  · exact (dd.2.2 y z _ (List.mem_of_getElem? e2)).symm
  · obtain ⟨j, hj, ej⟩ := List.getElem_of_mem z
    have hj' : j < (σ.zip Γ).length := by simpa using hj
    rw [List.getElem_set] at ej
    by_cases c : i = j
    · rw [if_pos c] at ej
      rw [← ej]
      exact Apart.symm (Apart.l fun _ z => nomatch z)
    · rw [if_neg c] at ej
      rw [← ej]
      rcases Nat.lt_or_ge i j with q | q
      · have := List.pairwise_iff_getElem.mp dd.2.1 i j hiz hj' q
        rw [ez] at this; exact this
      · have := List.pairwise_iff_getElem.mp dd.2.1 j i hj' hiz (by omega)
        rw [ez] at this; exact this.symm
/-- .. and put back -/
theorem Stt.back {i : Nat} {p : Addr} {u : Mu} (h : Stt B σ (Γ.set i .un) ((some (.ref p), .m u) :: ts) H) (k : σ[i]? = some (some (.ref p))) : Stt B σ (Γ.set i (.m u)) ts H := by
  have z := h.set (i := i)
  rw [set_self k, List.set_set] at z
  exact z
/-- the arguments, all data -/
theorem Stt.args : ∀ {vs : List V} {ds : List D} {ts : List Cell}, vs.length = ds.length → Stt B σ Γ ((vs.map some).zip (ds.map En.d) ++ ts) H →
    σ.length = Γ.length ∧ ∃ I, Gr B.T B.I0 B.H0 I H ∧ DdAll I vs ds ∧ Env B I H (ts ++ σ.zip Γ)
  | vs, ds, ts, hn, ⟨hl, I, g, e⟩ => by
    refine ⟨hl, I, g, ?_, e.sub (by rw [List.append_assoc]; exact List.sublist_append_right _ _)⟩
    have all : ∀ (vs : List V) (ds : List D), vs.length = ds.length → (∀ x ∈ (vs.map some).zip (ds.map En.d), x ∈ ((vs.map some).zip (ds.map En.d) ++ ts) ++ σ.zip Γ) →
        (∀ x ∈ (vs.map some).zip (ds.map En.d), ∃ v, x.1 = some v ∧ EnOk B I H v x.2) → DdAll I vs ds := by
      intro vs
      induction vs with
      | nil => intro ds h _ _; cases ds with
        | nil => exact .nil
        | cons => simp at h
      | cons v vs ih => intro ds h h1 h2; cases ds with
        | nil => simp at h
        | cons x ds =>
          obtain ⟨w, hw, k⟩ := h2 (some v, .d x) (by simp)
          have hw : v = w := Option.some.inj hw
          subst hw
          refine .cons k ?_
          have q : ∀ y ∈ (vs.map some).zip (ds.map En.d), ∃ v, y.1 = some v ∧ EnOk B I H v y.2 := fun y hy => h2 y (by simp; right; exact hy)
          clear ih h1 h2
          have hlen : vs.length = ds.length := by simpa using h
          clear h
          induction vs generalizing ds with
          | nil => cases ds with
            | nil => exact .nil
            | cons => simp at hlen
          | cons v' vs ih => cases ds with
            | nil => simp at hlen
            | cons x' ds =>
              obtain ⟨w', hw', k'⟩ := q (some v', .d x') (by simp)
              have hw' : v' = w' := Option.some.inj hw'
              subst hw'
              exact .cons k' (ih ds (fun y hy => q y (by simp; right; exact hy)) (by simpa using hlen))
    refine all vs ds hn (fun x hx => List.mem_append_left _ (List.mem_append_left _ hx)) fun x hx => ?_
    refine e.ok x (List.mem_append_left _ (List.mem_append_left _ hx)) ?_
    have := (List.of_mem_zip (a := x.1) (b := x.2) hx).2
    obtain ⟨y, _, q⟩ := List.mem_map.mp this
    rw [← q]
    exact fun z => nomatch z
end

/-! ### judgements -/
def EvE (B : Bs) (te : TE) (Γ : List En) (e : En) : Prop := ∀ σ ts H, Stt B σ Γ ts H → ∀ Q : VK, (∀ v H', Stt B σ Γ ((some v, e) :: ts) H' → Q v H') → te σ H Q
def EvX (B : Bs) (te : TE) (Γ : List En) (P : List En → En → Prop) : Prop := ∀ σ ts H, Stt B σ Γ ts H → ∀ Q : VK, (∀ Γ' e v H', P Γ' e → Stt B σ Γ' ((some v, e) :: ts) H' → Q v H') → te σ H Q
def EvA (B : Bs) (ta : TA) (Γ : List En) (es : List En) : Prop := ∀ σ ts H, Stt B σ Γ ts H → ∀ Q : List V → Hp → Prop, (∀ vs H', vs.length = es.length → Stt B σ Γ ((vs.map some).zip es ++ ts) H' → Q vs H') → ta σ H Q
def EvB (B : Bs) (tt : TT) (Γ : List En) (b : Bool) : Prop := ∀ σ ts H, Stt B σ Γ ts H → ∀ Q : Bool → Hp → Prop, (∀ H', Stt B σ Γ ts H' → Q b H') → tt σ H Q
/-- a two-place operation on data -/
def RO (r : R2) (a b d : D) : Prop := ∀ (I H : Hp) x y (Q : VK), Same I H → Dd I x a → Dd I y b → (∀ v I' H', Gr T0 I H I' H' → Dd I' v d → Q v H') → r x y H Q
/-- a built-in's call on data -/
def RC (r : List V → Hp → VK → Prop) (ds : List D) (d : D) : Prop := ∀ (I H : Hp) vs (Q : VK), Same I H → DdAll I vs ds → (∀ v I' H', Gr T0 I H I' H' → Dd I' v d → Q v H') → r vs H Q
section
variable {B : Bs} {Γ Γ' : List En} {ta tb te tx : TE} {tt tu : TT} {tA tr : TA} {a b d x y : D} {e e' : En} {es : List En}
theorem EvE.toX (h : EvE B te Γ e) : EvX B te Γ fun Γ' e' => Γ' = Γ ∧ e' = e := fun σ ts H s Q q => h σ ts H s Q fun v H' k => q Γ e v H' ⟨rfl, rfl⟩ k
theorem EvE.is (h : EvE B te Γ e) (q : e = e') : EvE B te Γ e' := q ▸ h
theorem ev_var {i : Nat} (h : Γ[i]? = some (.d x)) : EvE B (tVar i) Γ (.d x) := fun σ ts H s Q q => by
  obtain ⟨v, hv, s'⟩ := s.get h
  exact ⟨v, hv, q v H s'⟩
theorem ev_varF {i : Nat} {x : List (P2 × D)} (h : Γ[i]? = some (.ft x)) : EvE B (tVar i) Γ (.ft x) := fun σ ts H s Q q => by
  obtain ⟨v, hv, s'⟩ := s.getF h
  exact ⟨v, hv, q v H s'⟩
theorem ev_int {i : Int} : EvE B (tC (.int i)) Γ (.d (.int i)) := fun σ ts H s Q q => q _ H (s.pushV fun _ => .int i)
theorem ev_bl {i : Bool} : EvE B (tC (.bl i)) Γ (.d (.bool i)) := fun σ ts H s Q q => q _ H (s.pushV fun _ => .bl i)
theorem ev_str {i : Str} : EvE B (tC (.str i)) Γ (.d (.str i)) := fun σ ts H s Q q => q _ H (s.pushV fun _ => .str i)
theorem ev_non : EvE B (tC .non) Γ (.d .none) := fun σ ts H s Q q => q _ H (s.pushV fun _ => .non)
/-- two data on top -/
theorem Stt.two {σ : L2.St} {ts : List Cell} {H : Hp} {v w : V} (s : Stt B σ Γ ((some w, .d y) :: (some v, .d x) :: ts) H) : σ.length = Γ.length ∧ ∃ I, Gr B.T B.I0 B.H0 I H ∧ Dd I v x ∧ Dd I w y ∧ Env B I H (ts ++ σ.zip Γ) := by
  obtain ⟨hl, I, g, e⟩ := s
  obtain ⟨v', hv, k⟩ := e.ok _ (List.mem_cons_of_mem _ List.mem_cons_self) (fun z => nomatch z)
  obtain ⟨w', hw, k'⟩ := e.ok _ List.mem_cons_self (fun z => nomatch z)
  have hv : v = v' := Option.some.inj hv
  have hw : w = w' := Option.some.inj hw
  subst hv hw
  exact ⟨hl, I, g, k, k', e.tail.tail⟩
theorem Stt.one {σ : L2.St} {ts : List Cell} {H : Hp} {v : V} (s : Stt B σ Γ ((some v, .d x) :: ts) H) : σ.length = Γ.length ∧ ∃ I, Gr B.T B.I0 B.H0 I H ∧ Dd I v x ∧ Env B I H (ts ++ σ.zip Γ) := by
  obtain ⟨hl, I, g, e⟩ := s
  obtain ⟨v', hv, k⟩ := e.ok _ List.mem_cons_self (fun z => nomatch z)
  have hv : v = v' := Option.some.inj hv
  subst hv
  exact ⟨hl, I, g, k, e.tail⟩
theorem ev_op {r : R2} (ha : EvE B ta Γ (.d a)) (hb : EvE B tb Γ (.d b)) (hr : RO r a b d) : EvE B (tOp r ta tb) Γ (.d d) := fun σ ts H s Q q =>
  ha σ ts H s _ fun v H1 s1 => hb σ _ H1 s1 _ fun w H2 s2 => by
    obtain ⟨hl, I, g, k1, k2, e⟩ := s2.two
    exact hr I H2 v w Q g.s k1 k2 fun z I' H' g' k => q z H' (Stt.fin hl g e g' k)
theorem ea_nil : EvA B tNil Γ [] := fun σ ts H s Q q => q [] H rfl s
theorem ea_cons (h : EvE B te Γ e) (hr : EvA B tr Γ es) : EvA B (tCons te tr) Γ (e :: es) := fun σ ts H s Q q =>
  h σ ts H s _ fun v H1 s1 => hr σ _ H1 s1 _ fun vs H2 hn s2 => q (v :: vs) H2 (by simp [hn]) (s2.perm List.perm_middle)
theorem ev_tup {ds : List D} (h : EvA B tA Γ (ds.map .d)) (hn : ds.length ≤ 100000 := by decide) : EvE B (tTup tA) Γ (.d (.tuple ds)) := fun σ ts H s Q q =>
  h σ ts H s _ fun vs H1 hl s1 => by
    rw [List.length_map] at hl
    obtain ⟨h0, I, g, k, e⟩ := s1.args hl
    refine ⟨sz_of (by rw [hl]; exact hn), fun p hp => q _ _ (Stt.fin h0 g e (Gr.new g.s hp) (.tup upd_same (k.mono (same_new _ (none_of_same g.s hp)))))⟩
theorem ev_lst {ds : List D} (h : EvA B tA Γ (ds.map .d)) (hn : ds.length ≤ 100000 := by decide) : EvE B (tLst tA) Γ (.d (.list ds)) := fun σ ts H s Q q =>
  h σ ts H s _ fun vs H1 hl s1 => by
    rw [List.length_map] at hl
    obtain ⟨h0, I, g, k, e⟩ := s1.args hl
    refine ⟨sz_of (by rw [hl]; exact hn), fun p hp => q _ _ (Stt.fin h0 g e (Gr.new g.s hp) (.lst upd_same (k.mono (same_new _ (none_of_same g.s hp)))))⟩
/-- .. a list that will change -/
theorem ev_lstM {ds : List D} (h : EvA B tA Γ (ds.map .d)) (hn : ds.length ≤ 100000 := by decide) : EvE B (tLst tA) Γ (.m (.l ds)) := fun σ ts H s Q q =>
  h σ ts H s _ fun vs H1 hl s1 => by
    rw [List.length_map] at hl
    refine ⟨sz_of (by rw [hl]; exact hn), fun p hp => q _ _ ?_⟩
    refine Stt.sub (ts := (some (.ref p), .m (.l ds)) :: ((vs.map some).zip (ds.map En.d) ++ ts)) (.cons_cons _ (List.sublist_append_right _ _)) (s1.newM hp (fun I sI ok => ?_) fun n z => nomatch z)
    refine ⟨vs, rfl, ?_⟩
    have all : ∀ (vs : List V) (ds : List D), vs.length = ds.length → (∀ x ∈ (vs.map some).zip (ds.map En.d), ∃ v, x.1 = some v ∧ EnOk B I H1 v x.2) → DdAll I vs ds := by
      intro vs
      induction vs with
      | nil => intro ds h _; cases ds with
        | nil => exact .nil
        | cons => simp at h
      | cons v vs ih => intro ds h h2; cases ds with
        | nil => simp at h
        | cons x ds =>
          obtain ⟨w, hw, k⟩ := h2 (some v, .d x) (by simp)
          have hw : v = w := Option.some.inj hw
          subst hw
          exact .cons k (ih ds (by simpa using h) fun y hy => h2 y (by simp; right; exact hy))
    refine all vs ds hl fun x hx => ok x (List.mem_append_left _ (List.mem_append_left _ hx)) ?_
    obtain ⟨y, _, q⟩ := List.mem_map.mp (List.of_mem_zip (a := x.1) (b := x.2) hx).2
    rw [← q]
    exact fun z => nomatch z
theorem ev_cb {r : List V → Hp → VK → Prop} {ds : List D} (h : EvA B tA Γ (ds.map .d)) (hr : RC r ds d) : EvE B (tCB r tA) Γ (.d d) := fun σ ts H s Q q =>
  h σ ts H s _ fun vs H1 hl s1 => by
    rw [List.length_map] at hl
    obtain ⟨h0, I, g, k, e⟩ := s1.args hl
    exact hr I H1 vs Q g.s k fun z I' H' g' k' => q z H' (Stt.fin h0 g e g' k')
/-! tests -/
theorem eb_test {b : Bool} (h : EvE B te Γ (.d (.bool b))) : EvB B (tTest te) Γ b := fun σ ts H s Q q => h σ ts H s _ fun v H' s' => by
  have k := s'.top
  cases k
  exact ⟨_, rfl, q H' s'.pop⟩
theorem eb_B {b : Bool} (h : EvE B te Γ (.d (.bool b))) : EvB B (tB te) Γ b := fun σ ts H s Q q => h σ ts H s _ fun v H' s' => by
  have k := s'.top
  cases k
  exact ⟨_, rfl, q H' s'.pop⟩
theorem eb_and {a b : Bool} (h1 : EvB B tt Γ a) (h2 : a = true → EvB B tu Γ b) : EvB B (tAnd tt tu) Γ (a && b) := fun σ ts H s Q q => h1 σ ts H s _ fun H1 s1 => by
  cases a with
  | true => exact (h2 rfl) σ ts H1 s1 Q q
  | false => exact q H1 s1
theorem eb_or {a b : Bool} (h1 : EvB B tt Γ a) (h2 : a = false → EvB B tu Γ b) : EvB B (tOr tt tu) Γ (a || b) := fun σ ts H s Q q => h1 σ ts H s _ fun H1 s1 => by
  cases a with
  | true => exact q H1 s1
  | false => exact (h2 rfl) σ ts H1 s1 Q q
theorem eb_not {a : Bool} (h1 : EvB B tt Γ a) : EvB B (tNot tt) Γ (!a) := fun σ ts H s Q q => h1 σ ts H s _ fun H1 s1 => q H1 s1
theorem eb_is {a b : Bool} (h1 : EvB B tt Γ a) (q : a = b) : EvB B tt Γ b := q ▸ h1
theorem ev_andV {a b : Bool} (h1 : EvE B ta Γ (.d (.bool a))) (h2 : a = true → EvE B tb Γ (.d (.bool b))) : EvE B (tAndV ta tb) Γ (.d (.bool (a && b))) := fun σ ts H s Q q => h1 σ ts H s _ fun v H1 s1 => by
  have k := s1.top
  cases k
  refine ⟨_, rfl, ?_⟩
  cases a with
  | true => exact (h2 rfl) σ ts H1 s1.pop Q q
  | false => exact q _ H1 s1
theorem ev_orV {a b : Bool} (h1 : EvE B ta Γ (.d (.bool a))) (h2 : a = false → EvE B tb Γ (.d (.bool b))) : EvE B (tOrV ta tb) Γ (.d (.bool (a || b))) := fun σ ts H s Q q => h1 σ ts H s _ fun v H1 s1 => by
  have k := s1.top
  cases k
  refine ⟨_, rfl, ?_⟩
  cases a with
  | true => exact q _ H1 s1
  | false => exact (h2 rfl) σ ts H1 s1.pop Q q
theorem ev_notV {a : Bool} (h1 : EvE B ta Γ (.d (.bool a))) : EvE B (tNotV ta) Γ (.d (.bool (!a))) := fun σ ts H s Q q => h1 σ ts H s _ fun v H1 s1 => by
  have k := s1.top
  cases k
  exact ⟨_, rfl, q _ H1 (s1.pop.pushV fun _ => .bl _)⟩
theorem ev_if {b : Bool} (h : EvB B tt Γ b) (h1 : b = true → EvE B ta Γ e) (h2 : b = false → EvE B tb Γ e) : EvE B (tIf tt ta tb) Γ e := fun σ ts H s Q q => h σ ts H s _ fun H1 s1 => by
  cases b with
  | true => exact (h1 rfl) σ ts H1 s1 Q q
  | false => exact (h2 rfl) σ ts H1 s1 Q q
end

/-! ### calls of defs -/
/-- a def over data -/
def spD (Pre : List D → Prop) (Post : List D → D → Prop) : Sp := fun vs H Q _ => ∃ I ds, Same I H ∧ DdAll I vs ds ∧ Pre ds ∧ ∀ v I' H' d, Gr T0 I H I' H' → Post ds d → Dd I' v d → Q v H'
theorem ev_call {B : Bs} {Γ : List En} {tA : TA} {ds : List D} {d : D} {Pre : List D → Prop} {Post : List D → D → Prop} {E : XK} (h : EvA B tA Γ (ds.map .d)) (hp : Pre ds) (hq : ∀ d', Post ds d' → d' = d) : EvE B (tCall (spD Pre Post) [] E tA) Γ (.d d) := fun σ ts H s Q q =>
  h σ ts H s _ fun vs H1 hl s1 => by
    rw [List.length_map] at hl
    obtain ⟨h0, I, g, k, e⟩ := s1.args hl
    show spD Pre Post (vs ++ []) H1 Q E
    rw [List.append_nil]
    refine ⟨I, ds, g.s, k, hp, fun v I' H' d' g' pd k' => q v H' ?_⟩
    rw [hq d' pd] at k'
    exact Stt.fin h0 g e g' k'
/-- the start of a body -/
theorem DdAll.start {B : Bs} {I H : Hp} {vs : List V} {ds : List D} (n : Nat) (h : DdAll I vs ds) : ∀ x ∈ (vs.map some ++ List.replicate n none).zip (ds.map En.d ++ List.replicate n En.un), x.2 ≠ .un → ∃ v, x.1 = some v ∧ EnOk B I H v x.2 := by
  intro x hx hn
  rw [List.zip_append (by simp [h.length])] at hx
  rcases List.mem_append.mp hx with z | z
  · clear hx
    induction vs generalizing ds with
    | nil => simp at z
    | cons v vs ih =>
      cases h with
      | cons a b =>
        simp only [List.map_cons, List.zip_cons_cons, List.mem_cons] at z
        rcases z with z | z
        · subst z; exact ⟨v, rfl, a⟩
        · exact ih b z
  · have := (List.of_mem_zip (a := x.1) (b := x.2) z).2
    exact absurd (List.eq_of_mem_replicate this) hn
theorem start_eq {N : List Str} {vs : List V} : start N vs = vs.map some ++ List.replicate (N.length - vs.length) none := by
  first | rfl | (unfold start; rfl) | (simp [start])
theorem apart_noM {L : List Cell} (h : ∀ x ∈ L, ∀ u, x.2 ≠ .m u) : L.Pairwise Apart := by
  induction L with
  | nil => exact .nil
  | cons x L ih => exact .cons (fun y _ => Apart.l (h x List.mem_cons_self)) (ih fun y hy => h y (List.mem_cons_of_mem _ hy))
theorem stt_start {K : PySem.W.Frag} {I H : Hp} {vs : List V} {ds : List D} (N : List Str) (sI : Same I H) (h : DdAll I vs ds) (hn : ds.length ≤ N.length) :
    Stt ⟨K, T0, I, H⟩ (start N vs) (ds.map En.d ++ List.replicate (N.length - ds.length) En.un) [] H := by
  have hl := h.length
  rw [start_eq, hl]
  refine ⟨by simp [hl], I, Gr.refl sI, DdAll.start _ h, apart_noM fun x hx u z => ?_⟩
  have := (List.of_mem_zip (a := x.1) (b := x.2) (show (x.1, x.2) ∈ _ from hx)).2
  rw [z] at this
  rcases List.mem_append.mp this with k | k
  · obtain ⟨_, _, q⟩ := List.mem_map.mp k; cases q
  · cases List.eq_of_mem_replicate k
end G

set_option Elab.async false
set_option linter.all false
set_option maxRecDepth 100000
set_option maxHeartbeats 4000000
/-! Dat3: targets, walks, comprehensions, statements as triples, operators, the rule for a def. -/
namespace G
open PySem L2

/-! ### targets -/
def EvG (B : Bs) (g : TG) (Γ : List En) (x : D) (Γ' : List En) (js : List Nat) : Prop := (Γ'.length = Γ.length ∧ ∀ (i : Nat), i ∉ js → Γ'[i]? = Γ[i]?) ∧
  ∀ σ v ts H, Stt B σ Γ ((some v, .d x) :: ts) H → ∀ Q : L2.St → Hp → Prop, (∀ σ' : L2.St, σ'.length = σ.length → (∀ (i : Nat), i ∉ js → σ'[i]? = σ[i]?) → Stt B σ' Γ' ts H → Q σ' H) → g v σ H Q
section
variable {B : Bs} {Γ Γ' : List En} {x a b : D}
theorem eg_name {j : Nat} : EvG B (gName j) Γ x (Γ.set j (.d x)) [j] :=
  ⟨⟨by simp, fun i hi => by rw [List.getElem?_set_ne]; intro z; exact hi (by simp [z])⟩, fun σ v ts H s Q q => q _ (by simp) (fun i hi => by rw [List.getElem?_set_ne]; intro z; exact hi (by simp [z])) s.set⟩
theorem DdAll.two {I : Hp} {xs : List V} {a b : D} (h : DdAll I xs [a, b]) : ∃ v w, xs = [v, w] ∧ Dd I v a ∧ Dd I w b := by
  cases h with
  | cons h1 t => cases t with
    | cons h2 t => cases t; exact ⟨_, _, rfl, h1, h2⟩
theorem eg_tup2 {K : PySem.W.Frag} {i j : Nat} : EvG B (gTup K 2 (gCons (gName i) (gCons (gName j) gNil))) Γ (.tuple [a, b]) ((Γ.set i (.d a)).set j (.d b)) [i, j] :=
  ⟨⟨by simp, fun k hk => by
      rw [List.getElem?_set_ne (by intro z; exact hk (by simp [z])), List.getElem?_set_ne (by intro z; exact hk (by simp [z]))]⟩, fun σ v ts H s Q q => by
    obtain ⟨hl, I, g, k, e⟩ := s.one
    cases k with
    | tup h t =>
      obtain ⟨v1, v2, rfl, k1, k2⟩ := t.two
      refine ⟨_, _, rfl, SqT.of (g.s _ _ h), rfl, _, _, rfl, _, _, rfl, rfl, ?_⟩
      refine q _ (by simp) (fun m hm => by
        rw [List.getElem?_set_ne (by intro z; exact hm (by simp [z])), List.getElem?_set_ne (by intro z; exact hm (by simp [z]))]) ?_
      have s1 : Stt B σ Γ ((some v1, .d a) :: (some v2, .d b) :: ts) H := ⟨hl, I, g, (e.consD k2).consD k1⟩
      exact s1.set.set⟩
end

/-! ### walks -/
def JOk (B : Bs) (J : It) (src : List Cell) (ds : List D) : Prop := ∀ i σ Γ ts H, Stt B σ Γ (src ++ ts) H →
  (∀ x, ds[i]? = some x → J.go i H ∧ ∀ v H', J.yld i H v H' → Stt B σ Γ ((some v, .d x) :: (src ++ ts)) H') ∧ (ds.length ≤ i → J.stop i H)
def EvI (B : Bs) (wi : TI) (Γ : List En) (ds : List D) : Prop := ∀ σ ts H, Stt B σ Γ ts H → ∀ R : It → Hp → Prop, (∀ J src H', JOk B J src ds → Stt B σ Γ (src ++ ts) H' → R J H') → wi σ H R
def rgD (lo : Int) (n : Nat) : List D := (List.range n).map fun (i : Nat) => PyData.int (lo + i)
section
variable {B : Bs} {Γ Γ' : List En} {ds es : List D} {tl : TE} {tA : TA} {K : PySem.W.Frag}
theorem ei_list (h : EvE B tl Γ (.d (.list ds))) : EvI B (iList K tl) Γ ds := fun σ ts H s R q => h σ ts H s _ fun v H1 s1 => by
  have k := s1.top
  cases k with
  | lst h0 t0 =>
    refine ⟨_, rfl, ⟨_, SqL.of h0⟩, q _ [_] H1 ?_ s1⟩
    intro i σ Γ ts H s
    obtain ⟨hl, I, g, k, e⟩ := Stt.one s
    cases k with
    | lst h1 t =>
      refine ⟨fun x hx => ?_, fun hn => ⟨_, SqL.of (g.s _ _ h1), by rw [t.length]; exact hn⟩⟩
      obtain ⟨y, hy, ky⟩ := t.get hx
      refine ⟨⟨_, y, SqL.of (g.s _ _ h1), hy⟩, fun v H' ⟨eH, ey⟩ => ?_⟩
      subst eH
      have z := ey _ (SqL.of (g.s _ _ h1))
      rw [hy] at z
      cases z
      exact ⟨hl, I, g, (e.consD (.lst h1 t)).consD ky⟩
theorem ei_tup (h : EvE B tl Γ (.d (.tuple ds))) : EvI B (iTup K tl) Γ ds := fun σ ts H s R q => h σ ts H s _ fun v H1 s1 => by
  have k := s1.top
  cases k with
  | tup h0 t0 =>
    refine ⟨_, rfl, ⟨_, SqT.of h0⟩, q _ [_] H1 ?_ s1⟩
    intro i σ Γ ts H s
    obtain ⟨hl, I, g, k, e⟩ := Stt.one s
    cases k with
    | tup h1 t =>
      refine ⟨fun x hx => ?_, fun hn => ⟨_, SqT.of (g.s _ _ h1), by rw [t.length]; exact hn⟩⟩
      obtain ⟨y, hy, ky⟩ := t.get hx
      refine ⟨⟨_, y, SqT.of (g.s _ _ h1), hy⟩, fun v H' ⟨eH, ey⟩ => ?_⟩
      subst eH
      have z := ey _ (SqT.of (g.s _ _ h1))
      rw [hy] at z
      cases z
      exact ⟨hl, I, g, (e.consD (.tup h1 t)).consD ky⟩
theorem rgD_get {lo : Int} {n i : Nat} {x : D} (h : (rgD lo n)[i]? = some x) : i < n ∧ x = .int (lo + i) := by
  unfold rgD at h
  rw [List.getElem?_map] at h
  by_cases hi : i < n
  · rw [List.getElem?_range hi] at h
    exact ⟨hi, (Option.some.inj h).symm⟩
  · rw [List.getElem?_eq_none (by simp; omega)] at h
    cases h
theorem jok_range {lo : Int} {n : Nat} : JOk B (Itr lo n) [] (rgD lo n) := fun i σ Γ ts H s =>
  ⟨fun x hx => by
    obtain ⟨hi, rfl⟩ := rgD_get hx
    refine ⟨hi, fun v H' ⟨eH, ev⟩ => ?_⟩
    subst eH ev
    exact s.pushV fun _ => .int _, fun h => by
    have : (rgD lo n).length = n := by simp [rgD]
    rw [this] at h; exact h⟩
theorem ei_rng1 {n : Int} (h : EvA B tA Γ [.d (.int n)]) (h1 : -1000000 ≤ n) (h2 : n ≤ 1000000) : EvI B (iRng1 tA) Γ (rgD 0 n.toNat) := fun σ ts H s R q => h σ ts H s _ fun vs H1 hl s1 => by
  match vs, hl with
  | [v], _ =>
    have k := Stt.top s1
    cases k
    exact ⟨n, rfl, by omega, by omega, q _ [] H1 jok_range (Stt.pop s1)⟩
theorem ei_rng2 {lo n : Int} (h : EvA B tA Γ [.d (.int lo), .d (.int n)]) (h0 : -1000000 ≤ lo) (h01 : lo ≤ 1000000) (h1 : -1000000 ≤ n) (h2 : n ≤ 1000000) : EvI B (iRng2 tA) Γ (rgD lo (n - lo).toNat) := fun σ ts H s R q => h σ ts H s _ fun vs H1 hl s1 => by
  obtain ⟨h0', I, g, k, e⟩ := Stt.args (ds := [.int lo, .int n]) hl s1
  obtain ⟨v, w, rfl, k1, k2⟩ := k.two
  cases k1
  cases k2
  exact ⟨lo, n, rfl, ⟨by omega, by omega, by omega, by omega⟩, q _ [] H1 jok_range ⟨h0', I, g, e⟩⟩
theorem ei_orL {w1 w2 : TI} (h : EvI B w1 Γ ds) : EvI B (fun σ H R => w1 σ H R ∨ w2 σ H R) Γ ds := fun σ ts H s R q => .inl (h σ ts H s R q)
theorem ei_orR {w1 w2 : TI} (h : EvI B w2 Γ ds) : EvI B (fun σ H R => w1 σ H R ∨ w2 σ H R) Γ ds := fun σ ts H s R q => .inr (h σ ts H s R q)
/-- zip of two lists, of two tuples -/
theorem jok_zipL {a b : Addr} (hn : es.length = ds.length) : JOk B (Itz K a b) [(some (.ref a), .d (.list ds)), (some (.ref b), .d (.list es))] (List.zipWith (fun x y => PyData.tuple [x, y]) ds es) := by
  intro i σ Γ ts H s
  obtain ⟨hl, I, g, k2, k1, e⟩ := Stt.two s
  cases k1 with
  | lst h1 t1 =>
    cases k2 with
    | lst h2 t2 =>
      refine ⟨fun x hx => ?_, fun hi => ⟨_, _, SqL.of (g.s _ _ h1), SqL.of (g.s _ _ h2), .inl (by rw [List.length_zipWith, hn, Nat.min_self] at hi; rw [t1.length]; exact hi)⟩⟩
      rw [List.getElem?_zipWith] at hx
      cases e1 : ds[i]? with
      | none => rw [e1] at hx; simp at hx
      | some d1 =>
        cases e2 : es[i]? with
        | none => rw [e1, e2] at hx; simp at hx
        | some d2 =>
          rw [e1, e2] at hx
          have hx : PyData.tuple [d1, d2] = x := by simpa using hx
          subst hx
          obtain ⟨y1, hy1, k1⟩ := t1.get e1
          obtain ⟨y2, hy2, k2⟩ := t2.get e2
          refine ⟨⟨_, _, y1, y2, SqL.of (g.s _ _ h1), SqL.of (g.s _ _ h2), hy1, hy2⟩, fun v H' ⟨T, x, y, ev, hT, eH, q1, q2⟩ => ?_⟩
          have z1 := q1 _ (SqL.of (g.s _ _ h1))
          have z2 := q2 _ (SqL.of (g.s _ _ h2))
          rw [hy1] at z1
          rw [hy2] at z2
          cases z1
          cases z2
          subst ev eH
          have sn := same_new (.tup [y1, y2]) (none_of_same g.s hT)
          exact Stt.fin (ts := _ :: _ :: ts) hl g ((e.consD (.lst h2 t2)).consD (.lst h1 t1)) (Gr.new g.s hT) (.tup upd_same (.cons (k1.mono sn) (.cons (k2.mono sn) .nil)))
theorem jok_zipT {a b : Addr} (hn : es.length = ds.length) : JOk B (RZ.ItzT K a b) [(some (.ref a), .d (.tuple ds)), (some (.ref b), .d (.tuple es))] (List.zipWith (fun x y => PyData.tuple [x, y]) ds es) := by
  intro i σ Γ ts H s
  obtain ⟨hl, I, g, k2, k1, e⟩ := Stt.two s
  cases k1 with
  | tup h1 t1 =>
    cases k2 with
    | tup h2 t2 =>
      refine ⟨fun x hx => ?_, fun hi => ⟨_, _, SqT.of (g.s _ _ h1), SqT.of (g.s _ _ h2), .inl (by rw [List.length_zipWith, hn, Nat.min_self] at hi; rw [t1.length]; exact hi)⟩⟩
      rw [List.getElem?_zipWith] at hx
      cases e1 : ds[i]? with
      | none => rw [e1] at hx; simp at hx
      | some d1 =>
        cases e2 : es[i]? with
        | none => rw [e1, e2] at hx; simp at hx
        | some d2 =>
          rw [e1, e2] at hx
          have hx : PyData.tuple [d1, d2] = x := by simpa using hx
          subst hx
          obtain ⟨y1, hy1, k1⟩ := t1.get e1
          obtain ⟨y2, hy2, k2⟩ := t2.get e2
          refine ⟨⟨_, _, y1, y2, SqT.of (g.s _ _ h1), SqT.of (g.s _ _ h2), hy1, hy2⟩, fun v H' ⟨T, x, y, ev, hT, eH, q1, q2⟩ => ?_⟩
          have z1 := q1 _ (SqT.of (g.s _ _ h1))
          have z2 := q2 _ (SqT.of (g.s _ _ h2))
          rw [hy1] at z1
          rw [hy2] at z2
          cases z1
          cases z2
          subst ev eH
          have sn := same_new (.tup [y1, y2]) (none_of_same g.s hT)
          exact Stt.fin (ts := _ :: _ :: ts) hl g ((e.consD (.tup h2 t2)).consD (.tup h1 t1)) (Gr.new g.s hT) (.tup upd_same (.cons (k1.mono sn) (.cons (k2.mono sn) .nil)))
theorem ei_zipL (h : EvA B tA Γ [.d (.list ds), .d (.list es)]) (hn : es.length = ds.length) : EvI B (RZ.iZipA K tA) Γ (List.zipWith (fun x y => PyData.tuple [x, y]) ds es) := fun σ ts H s R q => h σ ts H s _ fun vs H1 hl s1 => by
  obtain ⟨h0', I, g, k, e⟩ := Stt.args (ds := [.list ds, .list es]) hl s1
  obtain ⟨v, w, rfl, k1, k2⟩ := k.two
  cases k1 with
  | lst h1 t1 =>
    cases k2 with
    | lst h2 t2 => exact ⟨_, _, _, _, rfl, .inl ⟨SqL.of (g.s _ _ h1), SqL.of (g.s _ _ h2), q _ _ H1 (jok_zipL hn) ⟨h0', I, g, (e.consD (.lst h2 t2)).consD (.lst h1 t1)⟩⟩⟩
theorem ei_zipT (h : EvA B tA Γ [.d (.tuple ds), .d (.tuple es)]) (hn : es.length = ds.length) : EvI B (RZ.iZipA K tA) Γ (List.zipWith (fun x y => PyData.tuple [x, y]) ds es) := fun σ ts H s R q => h σ ts H s _ fun vs H1 hl s1 => by
  obtain ⟨h0', I, g, k, e⟩ := Stt.args (ds := [.tuple ds, .tuple es]) hl s1
  obtain ⟨v, w, rfl, k1, k2⟩ := k.two
  cases k1 with
  | tup h1 t1 =>
    cases k2 with
    | tup h2 t2 => exact ⟨_, _, _, _, rfl, .inr ⟨SqT.of (g.s _ _ h1), SqT.of (g.s _ _ h2), q _ _ H1 (jok_zipT hn) ⟨h0', I, g, (e.consD (.tup h2 t2)).consD (.tup h1 t1)⟩⟩⟩
end

/-! ### comprehensions -/
theorem wipe_get {σ : L2.St} : ∀ {vs : List Nat} {i : Nat}, (wipe σ vs)[i]? = if i ∈ vs then (σ[i]?).map (fun _ => none) else σ[i]?
  | [], i => by simp [wipe]
  | v :: vs, i => by
    unfold wipe
    by_cases h : v = i
    · subst h
      rw [if_pos List.mem_cons_self]
      by_cases hv : v < (wipe σ vs).length
      · rw [List.getElem?_set_self hv]
        rw [wipe_length] at hv
        rw [List.getElem?_eq_getElem hv]; rfl
      · rw [List.getElem?_eq_none (by simpa using hv)]
        rw [wipe_length] at hv
        rw [List.getElem?_eq_none (by omega)]; rfl
    · rw [List.getElem?_set_ne h, wipe_get]
      by_cases h2 : i ∈ vs
      · rw [if_pos h2, if_pos (List.mem_cons_of_mem _ h2)]
      · rw [if_neg h2, if_neg (by simp; exact ⟨fun z => h z.symm, h2⟩)]
theorem wipe_eq {σ σ2 : L2.St} {vs : List Nat} (hl : σ2.length = σ.length) (h : ∀ (i : Nat), i ∉ vs → σ2[i]? = σ[i]?) : wipe σ2 vs = wipe σ vs := by
  refine List.ext_getElem? fun i => ?_
  rw [wipe_get, wipe_get]
  by_cases hi : i ∈ vs
  · rw [if_pos hi, if_pos hi]
    by_cases hs : i < σ.length
    · rw [List.getElem?_eq_getElem hs, List.getElem?_eq_getElem (by omega)]; rfl
    · rw [List.getElem?_eq_none (by omega), List.getElem?_eq_none (by omega)]
  · rw [if_neg hi, if_neg hi, h i hi]
section
variable {B : Bs} {σ : L2.St} {Γ Γ' : List En} {ts : List Cell} {H : Hp} {ds : List D} {x : D}
theorem Stt.app {p : Addr} {y : V} (h : Stt B σ Γ ((some y, .d x) :: (some (.ref p), .m (.l ds)) :: ts) H) :
    ∃ acc, H p = some (.lst acc) ∧ acc.length = ds.length ∧ Stt B σ Γ ((some (.ref p), .m (.l (ds ++ [x]))) :: ts) (upd H p (.lst (acc ++ [y]))) := by
  obtain ⟨p', I0, o, e1, sI, hH, ⟨acc, eo, hacc⟩, ow⟩ := Stt.topM (h.perm (.swap _ _ _))
  injection e1 with e1
  subst e1 eo
  refine ⟨acc, hH, hacc.length, ?_⟩
  have hp := h.perm (.swap _ _ _)
  obtain ⟨hl, I, g, e⟩ := hp
  obtain ⟨v', hv, q, o, e1, hI, ow', hH', xs, eo, hx⟩ := e.ok _ List.mem_cons_self (fun z => nomatch z)
  have hv : V.ref p = v' := Option.some.inj hv
  subst hv
  injection e1 with e1
  subst e1 eo
  rw [hH] at hH'
  cases hH'
  obtain ⟨w, hw, k⟩ := e.ok _ (List.mem_cons_of_mem _ List.mem_cons_self) (fun z => nomatch z)
  have hw : y = w := Option.some.inj hw
  subst hw
  have hd := List.pairwise_cons.mp e.dj
  have et := e.tail
  have s2 : Stt B σ Γ ((some (.ref p), .m (.l (ds ++ [x]))) :: (some y, .d x) :: ts) (upd H p (.lst (acc ++ [y]))) := by
    refine ⟨hl, I, Gr.wr g hI (.inr ow') (fun _ z => nomatch z), Env.cons ⟨fun z hz hn => ?_, et.dj⟩ ⟨p, _, rfl, hI, ow', upd_same, _, rfl, hx.append (.cons k .nil)⟩ fun z hz a b c d1 d2 d3 d4 => hd.1 z hz _ b c rfl d2 d3 d4⟩
    obtain ⟨w, hw, k⟩ := et.ok z hz hn
    refine ⟨w, hw, ?_⟩
    have ap := hd.1 z hz
    obtain ⟨yc, ye⟩ := z
    dsimp only at k hw ap ⊢
    cases ye with
    | un => trivial
    | d x => exact k
    | ft x => exact k
    | raw u => exact k
    | m u2 =>
      obtain ⟨q, o2, a, b, c, d, f⟩ := k
      refine ⟨q, o2, a, b, c, ?_, f⟩
      rw [upd_ne]
      · exact d
      · intro z
        subst z
        rw [hw, a] at ap
        exact ap _ _ q rfl rfl rfl rfl
  exact (s2.perm (.swap _ _ _)).pop
/-- [te for g in wi if tt]: f tells what the i-th item gives -/
theorem ev_lcI {wi : TI} {g : TG} {tt : TT} {te : TE} {vs js : List Nat} (f : Nat → Option D) (hi : EvI B wi Γ ds) (hv : ∀ i ∈ vs, Γ[i]? = some .un) (hjs : ∀ i ∈ js, i ∈ vs) (hz : ds.length ≤ 100000)
    (ht : ∀ i x, ds[i]? = some x → ∃ Γ', EvG B g Γ x Γ' js ∧ ((f i = none ∧ EvB B tt Γ' false) ∨ (∃ y, f i = some y ∧ EvB B tt Γ' true ∧ EvE B te Γ' (.d y)))) : EvE B (tLc wi g tt te vs) Γ (.d (.list ((List.range ds.length).filterMap f))) := fun σ ts H s Q q => hi σ ts H s _ fun J src H1 jok s1 Dl hD => by
  refine ⟨fun i m H => m = ds.length - i ∧ i ≤ ds.length ∧ Stt B σ Γ (src ++ ((some (.ref Dl), .m (.l ((List.range i).filterMap f))) :: ts)) H, ⟨ds.length, by simp, Nat.zero_le _, ?_⟩, ?_⟩
  · refine Stt.perm List.perm_middle.symm (s1.newM hD (fun I _ _ => ⟨[], rfl, ?_⟩) fun n z => nomatch z)
    exact .nil
  · rintro i m H2 ⟨rfl, hi, s2⟩
    obtain ⟨go, stop⟩ := jok i σ Γ _ H2 s2
    by_cases hlt : i < ds.length
    · obtain ⟨hgo, yld⟩ := go ds[i] (List.getElem?_eq_getElem hlt)
      refine .inr ⟨hgo, fun H' => Stt B σ Γ (src ++ ((some (.ref Dl), .m (.l ((List.range (i + 1)).filterMap f))) :: ts)) H', fun H' p' => ⟨ds.length - (i + 1), by omega, rfl, hlt, p'⟩, fun v H' y => ?_⟩
      have s3 := yld v H' y
      obtain ⟨Γ', ⟨⟨gl, ga⟩, eg⟩, hb⟩ := ht i ds[i] (List.getElem?_eq_getElem hlt)
      have s4 : Stt B (wipe σ vs) Γ ((some v, .d ds[i]) :: (src ++ ((some (.ref Dl), .m (.l ((List.range i).filterMap f))) :: ts))) H' := s3.to (by rw [wipe_length, s.1]) rfl fun j e hj => by
        by_cases hjv : j ∈ vs
        · rw [hv j hjv] at hj; exact .inl (Option.some.inj hj).symm
        · exact .inr ⟨hj, by rw [wipe_get, if_neg hjv]⟩
      refine eg _ _ _ _ s4 _ fun σ2 hl2 ha2 s5 => ?_
      have back : ∀ {ts' : List Cell} {H'' : Hp}, Stt B σ2 Γ' ts' H'' → Stt B σ Γ ts' H'' := fun z => z.to s.1 gl fun j e hj => by
        by_cases hjv : j ∈ vs
        · rw [hv j hjv] at hj; exact .inl (Option.some.inj hj).symm
        · have hjj : j ∉ js := fun z => hjv (hjs j z)
          exact .inr ⟨by rw [ga j hjj]; exact hj, by rw [ha2 j hjj, wipe_get, if_neg hjv]⟩
      have et : (List.range (i + 1)).filterMap f = (List.range i).filterMap f ++ (f i).toList := by
        rw [List.range_succ, List.filterMap_append]
        cases e : f i with
        | none => simp [e]
        | some y => simp [e]
      refine ⟨?_, ?_⟩
      · have e1 : wipe σ2 vs = wipe (wipe σ vs) vs := wipe_eq hl2 fun j hj => ha2 j fun z => hj (hjs j z)
        rw [e1]
        exact wipe_eq (wipe_length _ _) fun j hj => by rw [wipe_get, if_neg hj]
      · rcases hb with ⟨hn, hb⟩ | ⟨y, hy, hb, he⟩
        · refine hb _ _ _ s5 _ fun H3 s6 => ?_
          rw [if_neg Bool.false_ne_true, et, hn]
          simpa using back s6
        · refine hb _ _ _ s5 _ fun H3 s6 => ?_
          rw [if_pos rfl]
          refine he _ _ _ s6 _ fun w H4 s7 => ?_
          have s8 := back s7
          have s9 : Stt B σ Γ ((some w, .d y) :: (some (.ref Dl), .m (.l ((List.range i).filterMap f))) :: (src ++ ts)) H4 := s8.perm (.cons _ List.perm_middle)
          obtain ⟨acc, hacc, hal, s10⟩ := s9.app
          refine ⟨acc, hacc, sz_lt ?_, ?_⟩
          · rw [hal]
            have l1 := List.length_filterMap_le f (List.range i)
            rw [List.length_range] at l1
            omega
          · rw [et, hy]
            exact s10.perm List.perm_middle.symm
    · have e : i = ds.length := by omega
      subst e
      refine .inl ⟨stop (Nat.le_refl _), q _ H2 ?_⟩
      have s3 := (s2.perm List.perm_middle).frz
      exact s3.sub (.cons_cons _ (List.sublist_append_right _ _))
theorem range_filterMap {α β : Type} (g : α → Option β) : ∀ xs : List α, (List.range xs.length).filterMap (fun i => xs[i]?.bind g) = xs.filterMap g
  | [] => rfl
  | x :: xs => by
    have e : ((fun i => (x :: xs)[i]?.bind g) ∘ Nat.succ) = fun i => xs[i]?.bind g := by funext i; simp
    rw [List.length_cons, List.range_succ_eq_map, List.filterMap_cons, List.filterMap_map, e, range_filterMap g xs, List.filterMap_cons]
    rfl
/-- over items that are a's: p tells which are taken, f what they give -/
theorem ev_lcF {α : Type} {wi : TI} {g : TG} {tt : TT} {te : TE} {vs js : List Nat} {xs : List α} {c : α → D} (p : α → Bool) (f : α → D) (hi : EvI B wi Γ (xs.map c)) (hv : ∀ i ∈ vs, Γ[i]? = some .un) (hjs : ∀ i ∈ js, i ∈ vs) (hz : xs.length ≤ 100000)
    (ht : ∀ a ∈ xs, ∃ Γ', EvG B g Γ (c a) Γ' js ∧ EvB B tt Γ' (p a) ∧ (p a = true → EvE B te Γ' (.d (f a)))) : EvE B (tLc wi g tt te vs) Γ (.d (.list ((xs.filter p).map f))) := by
  have e : (xs.filter p).map f = (List.range (xs.map c).length).filterMap fun i => xs[i]?.bind fun a => if p a then some (f a) else none := by
    rw [List.length_map, range_filterMap, ← List.filterMap_eq_map, List.filterMap_filter]
    rfl
  rw [e]
  refine ev_lcI _ hi hv hjs (by rw [List.length_map]; exact hz) fun i x hx => ?_
  rw [List.getElem?_map] at hx
  obtain ⟨a, ha, rfl⟩ := Option.map_eq_some_iff.mp hx
  obtain ⟨Γ', g1, g2, g3⟩ := ht a (List.mem_of_getElem? ha)
  refine ⟨Γ', g1, ?_⟩
  rw [ha]
  cases hp : p a with
  | false => exact .inl ⟨by simp [hp], hp ▸ g2⟩
  | true => exact .inr ⟨f a, by simp [hp], hp ▸ g2, g3 hp⟩
theorem eb_yes : EvB B tYes Γ true := fun σ ts H s Q q => q H s
theorem ev_lcM {α : Type} {wi : TI} {g : TG} {te : TE} {vs js : List Nat} {xs : List α} {c : α → D} (f : α → D) (hi : EvI B wi Γ (xs.map c)) (hv : ∀ i ∈ vs, Γ[i]? = some .un) (hjs : ∀ i ∈ js, i ∈ vs) (hz : xs.length ≤ 100000)
    (ht : ∀ a ∈ xs, ∃ Γ', EvG B g Γ (c a) Γ' js ∧ EvE B te Γ' (.d (f a))) : EvE B (tLc wi g tYes te vs) Γ (.d (.list (xs.map f))) := by
  have z := ev_lcF (tt := tYes) (fun _ => true) f hi hv hjs hz fun a ha => by
    obtain ⟨Γ', g1, g2⟩ := ht a ha
    exact ⟨Γ', g1, eb_yes, fun _ => g2⟩
  rwa [List.filter_eq_self.mpr (fun _ _ => rfl)] at z
end
end G

set_option Elab.async false
set_option linter.all false
set_option maxRecDepth 100000
set_option maxHeartbeats 4000000
/-! Dat4: statements as triples, operators, built-ins, the rule for a def. -/
namespace G
open PySem L2

/-! ### statements -/
def HT (B : Bs) (t : TS) (Γ : List En) (N : List En → Prop) (R : List En → En → Prop) : Prop := ∀ σ ts H (Dn : Ends), Stt B σ Γ ts H → (∀ Γ' σ' H', N Γ' → Stt B σ' Γ' ts H' → Dn.nx σ' H') →
  (∀ Γ' e σ' v H', R Γ' e → Stt B σ' Γ' ((some v, e) :: ts) H' → Dn.rt v H') → t Dn σ H
section
variable {B : Bs} {Γ Γ' : List En} {N N' : List En → Prop} {R : List En → En → Prop} {t u tb : TS} {te : TE} {tA : TA} {tt : TT} {e e1 e2 e3 : En} {x : D} {ds : List D}
theorem ht_next (h : N Γ) : HT B tNext Γ N R := fun σ ts H Dn s n r => n Γ σ H h s
theorem ht_seq (h : HT B t Γ (fun Γ' => HT B u Γ' N R) R) : HT B (tSeq t u) Γ N R := fun σ ts H Dn s n r =>
  h σ ts H { Dn with nx := u Dn } s (fun Γ' σ' H' h' s' => h' σ' ts H' Dn s' n r) r
theorem ht_imp (h : HT B t Γ N' R) (k : ∀ Γ, N' Γ → N Γ) : HT B t Γ N R := fun σ ts H Dn s n r => h σ ts H Dn s (fun Γ' σ' H' h' s' => n Γ' σ' H' (k _ h') s') r
theorem ht_wk (w : Wk Γ Γ') (h : HT B t Γ' N R) : HT B t Γ N R := fun σ ts H Dn s n r => h σ ts H Dn (s.wk w) n r
theorem ht_frz {i : Nat} (k : Γ[i]? = some (.m (.l ds))) (h : HT B t (Γ.set i (.d (.list ds))) N R) : HT B t Γ N R := fun σ ts H Dn s n r => by
  obtain ⟨p, e1, s1⟩ := s.out k
  have z := s1.frz.set (i := i)
  rw [set_self e1, List.set_set] at z
  exact h σ ts H Dn z n r
theorem ht_frzT {i : Nat} {kvs : List (P2 × D)} (k : Γ[i]? = some (.m (.t kvs))) (h : HT B t (Γ.set i (.ft kvs)) N R) : HT B t Γ N R := fun σ ts H Dn s n r => by
  obtain ⟨p, e1, s1⟩ := s.out k
  have z := s1.frzT.set (i := i)
  rw [set_self e1, List.set_set] at z
  exact h σ ts H Dn z n r
theorem ht_set {i : Nat} (h : EvE B te Γ e) (k : N (Γ.set i e)) : HT B (tAsg te (gName i)) Γ N R := fun σ ts H Dn s n r =>
  h σ ts H s _ fun v H1 s1 => n _ _ H1 k s1.set
theorem ht_setX {i : Nat} {P : List En → En → Prop} (h : EvX B te Γ P) (k : ∀ Γ' e, P Γ' e → N (Γ'.set i e)) : HT B (tAsg te (gName i)) Γ N R := fun σ ts H Dn s n r =>
  h σ ts H s _ fun Γ' e v H1 p s1 => n _ _ H1 (k _ _ p) s1.set
theorem ht_asg {g : TG} {js : List Nat} (h : EvE B te Γ (.d x)) (eg : EvG B g Γ x Γ' js) (k : N Γ') : HT B (tAsg te g) Γ N R := fun σ ts H Dn s n r =>
  h σ ts H s _ fun v H1 s1 => eg.2 σ v ts H1 s1 _ fun σ' _ _ s2 => n Γ' σ' H1 k s2
theorem ht_par {i j : Nat} (h : EvA B tA Γ [e1, e2]) (k : N ((Γ.set i e1).set j e2)) : HT B (tPar i j tA) Γ N R := fun σ ts H Dn s n r =>
  h σ ts H s _ fun vs H1 hl s1 => by
    match vs, hl with
    | [v, w], _ => exact ⟨v, w, rfl, n _ _ H1 k (Stt.set (Stt.set s1))⟩
theorem ht_par3 {i j l : Nat} (h : EvA B tA Γ [e1, e2, e3]) (k : N (((Γ.set i e1).set j e2).set l e3)) : HT B (tPar3 i j l tA) Γ N R := fun σ ts H Dn s n r =>
  h σ ts H s _ fun vs H1 hl s1 => by
    match vs, hl with
    | [v, w, z], _ => exact ⟨v, w, z, rfl, n _ _ H1 k (Stt.set (Stt.set (Stt.set s1)))⟩
theorem ht_ret (h : EvE B te Γ e) (k : R Γ e) : HT B (tRet te) Γ N R := fun σ ts H Dn s n r => h σ ts H s _ fun v H1 s1 => r Γ e σ v H1 k s1
theorem ht_retX {P : List En → En → Prop} (h : EvX B te Γ P) (k : ∀ Γ' e, P Γ' e → R Γ' e) : HT B (tRet te) Γ N R := fun σ ts H Dn s n r => h σ ts H s _ fun Γ' e v H1 p s1 => r Γ' e σ v H1 (k _ _ p) s1
theorem ht_if {b : Bool} (h : EvB B tt Γ b) (h1 : b = true → HT B t Γ N R) (h2 : b = false → HT B u Γ N R) : HT B (tIfS tt t u) Γ N R := fun σ ts H Dn s n r => h σ ts H s _ fun H1 s1 => by
  cases b with
  | true => exact (h1 rfl) σ ts H1 Dn s1 n r
  | false => exact (h2 rfl) σ ts H1 Dn s1 n r
theorem ht_drop (h : EvE B te Γ e) (k : N Γ) : HT B (tDrop te) Γ N R := fun σ ts H Dn s n r => h σ ts H s _ fun v H1 s1 => n _ _ H1 k s1.pop
/-- xs.append(e), xs our own -/
theorem ht_app {K : PySem.W.Frag} {i : Nat} (k : Γ[i]? = some (.m (.l ds))) (h : EvE B te Γ (.d x)) (hz : ds.length < 100000) (q : N (Γ.set i (.m (.l (ds ++ [x]))))) :
    HT B (tDrop (tBM K "list" rAppend (tVar i) (tCons te tNil))) Γ N R := fun σ ts H Dn s n r => by
  obtain ⟨p, e1, s1⟩ := s.out k
  obtain ⟨p', I0, o, e2, sI, hH, ⟨acc, eo, hacc⟩, ow⟩ := s1.topM
  injection e2 with e2
  subst e2 eo
  refine ⟨_, e1, .inl ⟨rfl, _, SqL.of hH⟩, h σ ts H s _ fun w H1 s2 => ?_⟩
  obtain ⟨p2, e3, s3⟩ := s2.out k
  have e4 : p = p2 := by
    rw [e1] at e3
    injection e3 with e3; injection e3 with e3; injection e3
  subst e4
  obtain ⟨acc2, hacc2, hl2, s4⟩ := (s3.perm (.swap _ _ _)).app
  exact ⟨p, acc2, w, rfl, rfl, hacc2, sz_lt (by rw [hl2]; exact hz), n _ _ _ q (s4.back e1)⟩
/-- for, over data -/
theorem ht_for {wi : TI} {g : TG} (W : Nat → List En → Prop) (hi : EvI B wi Γ ds) (h0 : W 0 Γ) (hs : ∀ i x Γ, ds[i]? = some x → W i Γ → ∃ Γ1 js, EvG B g Γ x Γ1 js ∧ HT B tb Γ1 (W (i + 1)) R) (hd : ∀ Γ, W ds.length Γ → N Γ) :
    HT B (tFor wi g tb) Γ N R := fun σ ts H Dn s n r => hi σ ts H s _ fun J src H1 jok s1 => by
  refine ⟨fun i m σ H => m = ds.length - i ∧ i ≤ ds.length ∧ ∃ Γ, W i Γ ∧ Stt B σ Γ (src ++ ts) H, ⟨ds.length, by simp, Nat.zero_le _, Γ, h0, s1⟩, ?_⟩
  rintro i m σ2 H2 ⟨rfl, hi, Γ2, w, s2⟩
  obtain ⟨go, stop⟩ := jok i σ2 Γ2 _ H2 s2
  by_cases hlt : i < ds.length
  · obtain ⟨hgo, yld⟩ := go ds[i] (List.getElem?_eq_getElem hlt)
    refine .inr ⟨hgo, fun σ' H' => ∃ Γ, W (i + 1) Γ ∧ Stt B σ' Γ (src ++ ts) H', fun σ' H' ⟨Γ', w', s'⟩ => ⟨ds.length - (i + 1), by omega, rfl, hlt, Γ', w', s'⟩, fun v H' y => ?_⟩
    obtain ⟨Γ1, js, eg, hb⟩ := hs i ds[i] Γ2 (List.getElem?_eq_getElem hlt) w
    refine eg.2 _ _ _ _ (yld v H' y) _ fun σ3 _ _ s3 => ?_
    exact hb σ3 _ H' _ s3 (fun Γ' σ' H'' w' s' => ⟨Γ', w', s'⟩) fun Γ' e σ' v H'' rr s' => r Γ' e σ' v H'' rr (s'.sub (.cons_cons _ (List.sublist_append_right _ _)))
  · have e : i = ds.length := by omega
    subst e
    exact .inl ⟨stop (Nat.le_refl _), n Γ2 σ2 H2 (hd _ w) (s2.sub (List.sublist_append_right _ _))⟩
theorem ht_while (W : Nat → List En → Prop) (m0 : Nat) (h0 : W m0 Γ) (hs : ∀ m Γ, W m Γ → ∃ b, EvB B tt Γ b ∧ (b = true → HT B tb Γ (fun Γ' => ∃ m', m' < m ∧ W m' Γ') R) ∧ (b = false → N Γ)) :
    HT B (tWhile tt tb) Γ N R := fun σ ts H Dn s n r => by
  refine ⟨fun m σ H => ∃ Γ, W m Γ ∧ Stt B σ Γ ts H, ⟨m0, Γ, h0, s⟩, ?_⟩
  rintro m σ2 H2 ⟨Γ2, w, s2⟩
  obtain ⟨b, hb, h1, h2⟩ := hs m Γ2 w
  refine hb σ2 ts H2 s2 _ fun H3 s3 => ?_
  cases b with
  | true =>
    rw [if_pos rfl]
    refine ⟨fun σ' H' => ∃ m', m' < m ∧ ∃ Γ, W m' Γ ∧ Stt B σ' Γ ts H', fun σ' H' ⟨m', l, z⟩ => ⟨m', l, z⟩, ?_⟩
    exact (h1 rfl) σ2 ts H3 _ s3 (fun Γ' σ' H' ⟨m', l, w'⟩ s' => ⟨m', l, Γ', w', s'⟩) r
  | false =>
    rw [if_neg Bool.false_ne_true]
    exact n Γ2 σ2 H3 (h2 rfl) s3
end

/-! ### operators on data -/
section
variable {K : PySem.W.Frag}
theorem ro_fin {r : R2} {a b d : D} (h : ∀ (I H : Hp) x y (Q : VK), Same I H → Dd I x a → Dd I y b → (∀ v, Dd I v d → Q v H) → r x y H Q) : RO r a b d := fun I H x y Q s h1 h2 q =>
  h I H x y Q s h1 h2 fun v k => q v I H (Gr.refl s) k
theorem ro_II {g : Int → Int → Int} {i j : Int} : RO (rI0 fun i j => .int (g i j)) (.int i) (.int j) (.int (g i j)) := ro_fin fun I H x y Q s h1 h2 q => by
  cases h1; cases h2; exact ⟨i, j, rfl, rfl, q _ (.int _)⟩
theorem ro_IB {g : Int → Int → Bool} {i j : Int} : RO (rI0 fun i j => .bl (g i j)) (.int i) (.int j) (.bool (g i j)) := ro_fin fun I H x y Q s h1 h2 q => by
  cases h1; cases h2; exact ⟨i, j, rfl, rfl, q _ (.bl _)⟩
theorem ro_IC {C : Int → Int → Prop} {g : Int → Int → Int} {i j : Int} (hc : C i j) : RO (rI C fun i j => .int (g i j)) (.int i) (.int j) (.int (g i j)) := ro_fin fun I H x y Q s h1 h2 q => by
  cases h1; cases h2; exact ⟨i, j, rfl, rfl, hc, q _ (.int _)⟩
theorem ro_eqD {a b : D} (sa : SeqAt.shaped a = true) (sb : SeqAt.shaped b = true) : RO (rEqD K) a b (.bool (PyData.eqv a b)) := ro_fin fun I H x y Q s h1 h2 q =>
  ⟨a, b, (h1.mono s).dp, (h2.mono s).dp, sa, sb, q _ (.bl _)⟩
theorem ro_neD {a b : D} (sa : SeqAt.shaped a = true) (sb : SeqAt.shaped b = true) : RO (rNeD K) a b (.bool (!PyData.eqv a b)) := ro_fin fun I H x y Q s h1 h2 q =>
  ⟨a, b, (h1.mono s).dp, (h2.mono s).dp, sa, sb, q _ (.bl _)⟩
theorem ro_inL {a : D} {ds : List D} (sa : SeqAt.shaped a = true) (sb : SeqAt.shaped (.list ds) = true) : RO (rInD K) a (.list ds) (.bool (ds.any fun z => PyData.eqv z a)) := ro_fin fun I H x y Q s h1 h2 q =>
  ⟨a, ds, (h1.mono s).dp, (h2.mono s).dp, sa, sb, q _ (.bl _)⟩
theorem ro_notInL {a : D} {ds : List D} (sa : SeqAt.shaped a = true) (sb : SeqAt.shaped (.list ds) = true) : RO (rNotInD K) a (.list ds) (.bool (!ds.any fun z => PyData.eqv z a)) := ro_fin fun I H x y Q s h1 h2 q =>
  ⟨a, ds, (h1.mono s).dp, (h2.mono s).dp, sa, sb, q _ (.bl _)⟩
def rInDT (K : PySem.W.Frag) : R2 := fun x y H Q => ∃ d ds, Dp K H x d ∧ Dp K H y (.tuple ds) ∧ SeqAt.shaped d = true ∧ SeqAt.shaped (.tuple ds) = true ∧ Q (.bl (ds.any fun z => PyData.eqv z d)) H
def rNotInDT (K : PySem.W.Frag) : R2 := fun x y H Q => ∃ d ds, Dp K H x d ∧ Dp K H y (.tuple ds) ∧ SeqAt.shaped d = true ∧ SeqAt.shaped (.tuple ds) = true ∧ Q (.bl (!ds.any fun z => PyData.eqv z d)) H
theorem ro_inT {a : D} {ds : List D} (sa : SeqAt.shaped a = true) (sb : SeqAt.shaped (.tuple ds) = true) : RO (rInDT K) a (.tuple ds) (.bool (ds.any fun z => PyData.eqv z a)) := ro_fin fun I H x y Q s h1 h2 q =>
  ⟨a, ds, (h1.mono s).dp, (h2.mono s).dp, sa, sb, q _ (.bl _)⟩
theorem ro_notInT {a : D} {ds : List D} (sa : SeqAt.shaped a = true) (sb : SeqAt.shaped (.tuple ds) = true) : RO (rNotInDT K) a (.tuple ds) (.bool (!ds.any fun z => PyData.eqv z a)) := ro_fin fun I H x y Q s h1 h2 q =>
  ⟨a, ds, (h1.mono s).dp, (h2.mono s).dp, sa, sb, q _ (.bl _)⟩
theorem ro_ixL {ds : List D} {z : Int} {d : D} (h0 : 0 ≤ z) (h : ds[z.toNat]? = some d) : RO (rIxL K) (.list ds) (.int z) d := ro_fin fun I H x y Q s h1 h2 q => by
  cases h1 with
  | lst e t =>
    cases h2
    obtain ⟨w, hw, k⟩ := t.get h
    exact ⟨_, _, z, w, rfl, rfl, SqL.of (s _ _ e), at_of (j := z.toNat) (by omega) hw, q w k⟩
theorem ro_ixT {ds : List D} {z : Int} {d : D} (h0 : 0 ≤ z) (h : ds[z.toNat]? = some d) : RO (rIxT K) (.tuple ds) (.int z) d := ro_fin fun I H x y Q s h1 h2 q => by
  cases h1 with
  | tup e t =>
    cases h2
    obtain ⟨w, hw, k⟩ := t.get h
    exact ⟨_, _, z, w, rfl, rfl, SqT.of (s _ _ e), at_of (j := z.toNat) (by omega) hw, q w k⟩
theorem ro_cat {ds es : List D} (hz : ds.length + es.length ≤ 100000) : RO rCat (.list ds) (.list es) (.list (ds ++ es)) := fun I H x y Q s h1 h2 q => by
  cases h1 with
  | lst e t =>
    cases h2 with
    | lst e2 t2 => exact ⟨_, _, _, _, rfl, rfl, s _ _ e, s _ _ e2, sz_of (by rw [t.length, t2.length]; exact hz), fun p hp => q _ _ _ (Gr.new s hp) (.lst upd_same ((t.append t2).mono (same_new _ (none_of_same s hp))))⟩
theorem ro_catT {ds es : List D} (hz : ds.length + es.length ≤ 100000) : RO (rCatA K) (.tuple ds) (.tuple es) (.tuple (ds ++ es)) := fun I H x y Q s h1 h2 q => by
  cases h1 with
  | tup e t =>
    cases h2 with
    | tup e2 t2 =>
      refine ⟨_, _, _, _, rfl, rfl, SqT.of (s _ _ e), SqT.of (s _ _ e2), sz_of (by rw [t.length, t2.length]; exact hz), fun z => ?_, fun _ z => ?_, fun _ _ p hp => q _ _ _ (Gr.new s hp) (.tup upd_same ((t.append t2).mono (same_new _ (none_of_same s hp))))⟩
      · subst z; cases t; exact q _ _ _ (Gr.refl s) (.tup e2 t2)
      · subst z; cases t2; exact q _ _ _ (Gr.refl s) (by rw [List.append_nil]; exact .tup e t)
theorem DdAll.rep {I : Hp} {xs : List V} {ds : List D} (h : DdAll I xs ds) : ∀ n, DdAll I (List.replicate n xs).flatten (List.replicate n ds).flatten
  | 0 => .nil
  | n + 1 => by simp only [List.replicate_succ, List.flatten_cons]; exact h.append (DdAll.rep h n)
theorem ro_rep {ds : List D} {n : Int} (h0 : 0 ≤ n) (h1 : n ≤ 1000) (hz : ds.length ≤ 100) : RO rRep (.list ds) (.int n) (.list (List.replicate n.toNat ds).flatten) := fun I H x y Q s h1' h2 q => by
  cases h1' with
  | lst e t =>
    cases h2
    refine ⟨_, _, _, rfl, rfl, s _ _ e, by omega, by omega, sz_of ?_, fun p hp => q _ _ _ (Gr.new s hp) (.lst upd_same ((t.rep _).mono (same_new _ (none_of_same s hp))))⟩
    rw [t.length]
    have a1 : n.toNat ≤ 1000 := by omega
    exact Nat.le_trans (Nat.mul_le_mul hz a1) (by decide)
theorem ro_ltP {p q : P2} : RO (rLtT K) (dP p) (dP q) (.bool (HT.lexLt [p.1, p.2] [q.1, q.2])) := ro_fin fun I H x y Q s h1 h2 k => by
  cases h1 with
  | tup e t =>
    cases h2 with
    | tup e2 t2 =>
      have z1 := DdAll.ints (ns := [p.1, p.2]) t
      have z2 := DdAll.ints (ns := [q.1, q.2]) t2
      subst z1 z2
      exact ⟨_, _, [p.1, p.2], [q.1, q.2], rfl, rfl, SqT.of (s _ _ e), SqT.of (s _ _ e2), k _ (.bl _)⟩
/-! ### built-ins on data -/
theorem rc_fin {r : List V → Hp → VK → Prop} {ds : List D} {d : D} (h : ∀ (I H : Hp) vs (Q : VK), Same I H → DdAll I vs ds → (∀ v, Dd I v d → Q v H) → r vs H Q) : RC r ds d := fun I H x Q s h1 q =>
  h I H x Q s h1 fun v k => q v I H (Gr.refl s) k
theorem DdAll.one {I : Hp} {xs : List V} {a : D} (h : DdAll I xs [a]) : ∃ v, xs = [v] ∧ Dd I v a := by
  cases h with
  | cons h1 t => cases t; exact ⟨_, rfl, h1⟩
theorem rc_lenL {ds : List D} : RC (fun xs H Q => ∃ p ys, xs = [.ref p] ∧ (SqL K H p ys ∨ SqT K H p ys) ∧ Q (.int (ys.length : Int)) H) [.list ds] (.int ds.length) := rc_fin fun I H vs Q s h q => by
  obtain ⟨v, rfl, k⟩ := h.one
  cases k with
  | lst e t => exact ⟨_, _, rfl, .inl (SqL.of (s _ _ e)), by rw [t.length]; exact q _ (.int _)⟩
theorem rc_lenT {ds : List D} : RC (fun xs H Q => ∃ p ys, xs = [.ref p] ∧ (SqL K H p ys ∨ SqT K H p ys) ∧ Q (.int (ys.length : Int)) H) [.tuple ds] (.int ds.length) := rc_fin fun I H vs Q s h q => by
  obtain ⟨v, rfl, k⟩ := h.one
  cases k with
  | tup e t => exact ⟨_, _, rfl, .inr (SqT.of (s _ _ e)), by rw [t.length]; exact q _ (.int _)⟩
abbrev rListOf (K : PySem.W.Frag) : List V → Hp → VK → Prop := fun xs H Q => ∃ p ys, xs = [.ref p] ∧ (SqL K H p ys ∨ SqT K H p ys) ∧ ∀ l, H l = none → Q (.ref l) (upd H l (.lst ys))
theorem rc_listL {ds : List D} : RC (rListOf K) [.list ds] (.list ds) := fun I H vs Q s h q => by
  obtain ⟨v, rfl, k⟩ := h.one
  cases k with
  | lst e t => exact ⟨_, _, rfl, .inl (SqL.of (s _ _ e)), fun p hp => q _ _ _ (Gr.new s hp) (.lst upd_same (t.mono (same_new _ (none_of_same s hp))))⟩
theorem rc_listT {ds : List D} : RC (rListOf K) [.tuple ds] (.list ds) := fun I H vs Q s h q => by
  obtain ⟨v, rfl, k⟩ := h.one
  cases k with
  | tup e t => exact ⟨_, _, rfl, .inr (SqT.of (s _ _ e)), fun p hp => q _ _ _ (Gr.new s hp) (.lst upd_same (t.mono (same_new _ (none_of_same s hp))))⟩
/-- list(xs) that will change -/
theorem ev_listM {B : Bs} {Γ : List En} {te : TE} {ds : List D} (h : EvE B te Γ (.d (.list ds))) : EvE B (tCB (rListOf K) (tCons te tNil)) Γ (.m (.l ds)) := fun σ ts H s Q q => h σ ts H s _ fun v H1 s1 => by
  obtain ⟨hl, I, g, k, e⟩ := s1.one
  cases k with
  | lst e1 t =>
    refine ⟨_, _, rfl, .inl (SqL.of (g.s _ _ e1)), fun p hp => q _ _ ?_⟩
    refine Stt.sub (.cons_cons _ (List.sublist_cons_self _ _)) (s1.newM hp (fun I' sI ok => ?_) fun n z => nomatch z)
    obtain ⟨w, hw, k⟩ := ok _ (List.mem_append_left _ List.mem_cons_self) (fun z => nomatch z)
    have hw := Option.some.inj hw
    subst hw
    cases k with
    | lst e2 t2 =>
      have z1 := g.s _ _ e1
      have z2 := sI _ _ e2
      rw [z1] at z2
      cases z2
      exact ⟨_, rfl, t2⟩
abbrev rTupleOf (K : PySem.W.Frag) : List V → Hp → VK → Prop := fun xs H Q => ∃ p ys, xs = [.ref p] ∧ ((SqL K H p ys ∧ ∀ l, H l = none → Q (.ref l) (upd H l (.tup ys))) ∨ (SqT K H p ys ∧ Q (.ref p) H))
theorem rc_tupL {ds : List D} : RC (rTupleOf K) [.list ds] (.tuple ds) := fun I H vs Q s h q => by
  obtain ⟨v, rfl, k⟩ := h.one
  cases k with
  | lst e t => exact ⟨_, _, rfl, .inl ⟨SqL.of (s _ _ e), fun p hp => q _ _ _ (Gr.new s hp) (.tup upd_same (t.mono (same_new _ (none_of_same s hp))))⟩⟩
theorem DdAll.bools {I : Hp} : ∀ {xs : List V} {bs : List Bool}, DdAll I xs (bs.map PyData.bool) → xs = bs.map V.bl
  | _, [], h => by cases h; rfl
  | _, n :: ns, h => by
    cases h with
    | cons a b => cases a; rw [DdAll.bools b]; rfl
theorem rc_all {bs : List Bool} : RC (rAll K) [.list (bs.map PyData.bool)] (.bool (bs.all id)) := rc_fin fun I H vs Q s h q => by
  obtain ⟨v, rfl, k⟩ := h.one
  cases k with
  | lst e t =>
    have z := t.bools
    subst z
    exact ⟨_, bs, rfl, SqL.of (s _ _ e), q _ (.bl _)⟩
theorem rc_int {i : Int} : RC (fun xs H Q => (∃ i, xs = [.int i] ∧ Q (.int i) H) ∨ ∃ k, xs = [.bl k] ∧ Q (.int (if k then 1 else 0)) H) [.int i] (.int i) := rc_fin fun I H vs Q s h q => by
  obtain ⟨v, rfl, k⟩ := h.one
  cases k
  exact .inl ⟨i, rfl, q _ (.int _)⟩
theorem rc_intB {i : Bool} : RC (fun xs H Q => (∃ i, xs = [.int i] ∧ Q (.int i) H) ∨ ∃ k, xs = [.bl k] ∧ Q (.int (if k then 1 else 0)) H) [.bool i] (.int (if i then 1 else 0)) := rc_fin fun I H vs Q s h q => by
  obtain ⟨v, rfl, k⟩ := h.one
  cases k
  exact .inr ⟨i, rfl, q _ (.int _)⟩
theorem rc_abs {i : Int} : RC (fun xs H Q => ∃ i, xs = [.int i] ∧ Q (.int (if i < 0 then -i else i)) H) [.int i] (.int (if i < 0 then -i else i)) := rc_fin fun I H vs Q s h q => by
  obtain ⟨v, rfl, k⟩ := h.one
  cases k
  exact ⟨i, rfl, q _ (.int _)⟩
theorem rc_min {i j : Int} : RC (fun xs H Q => ∃ i j, xs = [.int i, .int j] ∧ Q (.int (if j < i then j else i)) H) [.int i, .int j] (.int (if j < i then j else i)) := rc_fin fun I H vs Q s h q => by
  obtain ⟨v, w, rfl, k, k2⟩ := h.two
  cases k
  cases k2
  exact ⟨i, j, rfl, q _ (.int _)⟩
theorem rc_max {i j : Int} : RC (fun xs H Q => ∃ i j, xs = [.int i, .int j] ∧ Q (.int (if j > i then j else i)) H) [.int i, .int j] (.int (if j > i then j else i)) := rc_fin fun I H vs Q s h q => by
  obtain ⟨v, w, rfl, k, k2⟩ := h.two
  cases k
  cases k2
  exact ⟨i, j, rfl, q _ (.int _)⟩
/-! ### isinstance -/
def tyName : D → String
  | .none => "NoneType"
  | .bool _ => "bool"
  | .int _ => "int"
  | .str _ => "str"
  | .list _ => "list"
  | .tuple _ => "tuple"
  | .dict _ => "dict"
theorem Dd.tyX {H : Hp} {v : V} {d : D} (h : Dd H v d) : TyX K H v (.type (tyName d)) := by
  cases h with
  | non => exact .base .non
  | bl b => exact .base (.bl b)
  | int b => exact .base (.int b)
  | str b => exact .base (.str b)
  | lst e _ => exact .base (.lst e)
  | tup e _ => exact .base (.tup e)
theorem ev_isi {B : Bs} {Γ : List En} {te : TE} {d : D} {n : String} {b : Bool} (h : EvE B te Γ (.d d)) (k : kitB (tyName d) n = some b) : EvE B (tCB (rIsi K) (tCons te (tCons (tC (.ty n)) tNil))) Γ (.d (.bool b)) := fun σ ts H s Q q => h σ ts H s _ fun v H1 s1 => by
  exact ⟨v, .ty n, _, _, b, rfl, .ty n, s1.top.tyX, kit_ty k, q _ H1 (s1.pop.pushV fun _ => .bl b)⟩
/-- isinstance(x, (m, n)) -/
theorem ev_isi2 {B : Bs} {Γ : List En} {te : TE} {d : D} {m n : String} {b c : Bool} (h : EvE B te Γ (.d d)) (k : kitB (tyName d) m = some b) (k2 : kitB (tyName d) n = some c) :
    EvE B (tCB (rIsiT K) (tCons te (tCons (tTup (tCons (tC (.ty m)) (tCons (tC (.ty n)) tNil))) tNil))) Γ (.d (.bool (b || c))) := fun σ ts H s Q q => h σ ts H s _ fun v H1 s1 => by
  refine ⟨by show 2 ≤ sizeLine; decide, fun p hp => ?_⟩
  obtain ⟨hl, I, g, kk, e⟩ := s1.one
  have s2 : Stt B σ Γ ((some v, .d d) :: ts) (upd H1 p (.tup [.ty m, .ty n])) := Stt.fin hl g e (Gr.newm g.s hp) kk
  refine ⟨v, p, [.ty m, .ty n], _, [.type m, .type n], b || c, rfl, upd_same, .cons (.ty m) (.cons (.ty n) .nil), s2.top.tyX, ?_, q _ _ (s2.pop.pushV fun _ => .bl _)⟩
  refine kitAny_cons (kit_ty k) (fun hb => ?_) (fun hb => by rw [hb]; rfl)
  rw [hb, Bool.false_or]
  exact kitAny_cons (kit_ty k2) (fun hc => by rw [hc]; exact kitAny_nil) (fun hc => hc)
end
end G

set_option Elab.async false
set_option linter.all false
set_option maxRecDepth 100000
set_option maxHeartbeats 4000000
/-! Xr: rules of the layer that this program wants besides: x in a tuple of tuples, len(set(ints)), {k: v} with a tuple key, sorted of a dict with tuple keys, set of a tuple of tuples, an own exception without arguments. -/
namespace L2
open PySem PySem.Spec PyProof.Rows
section
variable {X : Cx}
theorem op_inDT (hu : X.A.units + 65 < cLine) : OpR X (compareOp .In) (G.rInDT X.K) := by
  intro pins s σ H x y v u Q I rx ry h
  obtain ⟨d, ds, hd, he, sd, se, q⟩ := h
  obtain ⟨as, r1⟩ := Dp.reads I d x v hd rx
  obtain ⟨bs, r2⟩ := Dp.reads I (.tuple ds) y u he ry
  exact SeqAt.in_tuple_reads r2 r1 (SeqAt.canLay_of_shaped se) (SeqAt.canLay_of_shaped sd) (by
    have h1 := SeqAt.depth_of_shaped sd
    have h2 : min (PyData.depthAll ds) d.depth ≤ d.depth := Nat.min_le_right _ _
    omega) ⟨.bl _, H, I, rfl, q⟩
theorem op_notInDT (hu : X.A.units + 65 < cLine) : OpR X (compareOp .NotIn) (G.rNotInDT X.K) := by
  intro pins s σ H x y v u Q I rx ry h
  obtain ⟨d, ds, hd, he, sd, se, q⟩ := h
  obtain ⟨as, r1⟩ := Dp.reads I d x v hd rx
  obtain ⟨bs, r2⟩ := Dp.reads I (.tuple ds) y u he ry
  exact SeqAt.notIn_tuple_reads r2 r1 (SeqAt.canLay_of_shaped se) (SeqAt.canLay_of_shaped sd) (by
    have h1 := SeqAt.depth_of_shaped sd
    have h2 : min (PyData.depthAll ds) d.depth ≤ d.depth := Nat.min_le_right _ _
    omega) ⟨.bl _, H, I, rfl, q⟩
/-- len(set(xs)), ints -/
def lenSet (ns : List Int) : Nat := (PyProof.Rows.firstMet (fun i => ns.getD i 0) ns.length).length
def tLenSetM (K : PySem.W.Frag) (ta : TE) : TE := fun σ H Q => ta σ H fun x H1 => ∃ (l : Addr) (ns : List Int), x = V.ref l ∧ SqL K H1 l (ns.map V.int) ∧ ns.length < 64 ∧ Q (.int (lenSet ns)) H1
theorem pe_lenSetM {a : Expr} {ta : TE} {p p2 q pos : Pos} (hc : X.calm = true) (hg : Gl X "len") (hm : X.mg "len" = none) (hg2 : Gl X "set") (hm2 : X.mg "set" = none) (ha : PE X a ta)
    (na : starEach [a] X.env = (false, eval a X.env) :: starEach [] X.env := by rfl) : PE X (.Call (.Name "len" p) [.Call (.Name "set" p2) [a] [] q] [] pos) (tLenSetM X.K ta) := by
  refine ⟨fun pins s σ H Q I h => ?_⟩
  refine Call_ (ld_blt I hg hm PySem.boot_len ?_)
  refine PyProof.Rows.callWith_builtin1 (PyProof.Rows.args_cons ?_ rfl) rfl rfl
  refine Call_ (ld_blt I hg2 hm2 PyProof.Rows.boot_set ?_)
  refine PyProof.Rows.callWith_type1 (PyProof.Rows.args_cons (thn (ha.run pins s σ H _ I h) fun v s1 ⟨x, H1, I1, r1, q1⟩ => PyProof.Rows.args_nil ?_) na) na rfl
  obtain ⟨l, ns, rfl, hq, h1, q1⟩ := q1
  cases r1
  obtain ⟨its, r, pl, hz⟩ := I1.list hq
  have hl : its.toArray.size = ns.length := by rw [List.size_toArray, ← r.length, List.length_map]
  refine call_set_list (I1.ok.hd hc) pl.isList (ns := ns) (by simpa using r.ints) (by unfold scanBound; omega) fun h' tk hS hk => ?_
  rw [hl] at hS
  refine PyProof.Rows.args_nil ?_
  obtain ⟨o, es, ep, t, ho, hex, hd, _, _, _, hf, hn⟩ := hS
  have I2 : Inv X pins σ H1 { s1 with heap := h', toks := tk } := I1.kept fun b o e => hk b o (Heap.lt_size e) e
  have hle : lenSet ns ≤ ns.length := by
    unfold lenSet
    have : ∀ (f : Nat → Int) i, (PyProof.Rows.firstMet f i).length ≤ i := by
      intro f i
      induction i with
      | zero => exact Nat.le_refl _
      | succ i ih =>
        rw [PyProof.Rows.firstMet_succ]
        unfold PyProof.Rows.step_dedup
        split
        · omega
        · rw [List.length_append]; simp; exact ih
    exact this _ _
  refine call_len_set ho hex hd hf (by rw [hn] <;> (unfold lenSet at hle; omega)) ⟨.int (lenSet ns), H1, I2.tok _, ⟨_, by rw [hn] <;> rfl⟩, q1⟩
/-- {k: v}, k a tuple -/
def tDisp1T (tk tv : TE) : TE := fun σ H Q => ∀ p, H p = none → tPairs [(tk, tv)] σ (upd H p (.dT [])) fun ps H2 => ∃ (y : V) (b : Addr) (k : List Key), ps = [(.ref b, y)] ∧ H2 p = some (.dT []) ∧ H2 b = some (.tup (k.map kV)) ∧ Q (.ref p) (upd H2 p (.dT [(k, y)]))
theorem pe_disp1T {pos : Pos} {k v : Expr} {tk tv : TE} (hu : X.A.units + 1 < cLine) (hk : PE X k tk) (hv : PE X v tv) : PE X (.Dict [some k] [v] pos) (tDisp1T tk tv) := by
  refine ⟨fun pins s σ H Q I q => ?_⟩
  have hn := I.hok.fresh (Nat.le_refl s.heap.objs.size)
  have I1 := I.laid (a := s.heap.objs.size) (o := .dT []) (h' := s.heap.push { cls := .type "dict", data := .dict #[] }) (t' := s.toks) (fun _ _ q => Heap.get?_push_of_some _ q) (Nat.le_refl _) (dt_empty s.heap I.big)
  have hp : PPs X pos [some k] [v] [(tk, tv)] := pps_cons hk hv pps_nil
  have hlen : (pairTrees [some k] [v] X.env pos).length = 1 := pairTrees_length [some k] [v] X.env pos rfl rfl
  rw [arm_eval_Dict, zip_pairTrees [some k] [v] X.env pos rfl rfl, dictDisplay_pairs _ (by
    intro he
    rw [he] at hlen
    simp at hlen) (by rw [hlen]; exact (by decide : 1 < 17))]
  refine wpAny_bind (wpAny_standAt (wpAny_bind (wpAny_subDictH (knd := tupleKind (mixKind X.prog X.w)) (Q := fun d s' => wpAny (model X.prog X.w) X.A (pure (Value.ref d)) (EP X pins σ Q) X.xe s') ?_ (by rw [hlen]; exact (by decide : 1 ≤ 15)) ?_)))
  · show X.A.units < cLine
    omega
  · refine thn (hp.run pins _ σ _ _ I1 (q _ hn)) fun ws s2 ⟨ps, H2, I2, rel, y, b, kk, eps, e, eb, q2⟩ => ?_
    subst eps
    cases rel with
    | @cons pa w0 pas pbs r0 rr =>
      cases rr
      obtain ⟨r1, r2⟩ := r0
      obtain ⟨wk, wv⟩ := w0
      have r1 : wk = Value.ref b := r1
      subst r1
      obtain ⟨_, hsys, xs0, rel0, o, es, ep, ho, hx, hd, he, hnd⟩ := (show ObjOk X.prog X.w H2 s2.heap s.heap.objs.size (.dT []) from I2.hok _ _ e)
      cases rel0
      have hkey := key_of (P := X.prog) (w := X.w) I2.hok eb
      refine ⟨[(kk, b, wv)], ⟨rfl, rfl, hkey, trivial⟩, ⟨o, es, ep, ho, hx, hd, he, fun x hx => absurd hx (by simp), List.nodup_nil⟩, fun h' tk2 dd hs => wpAny_pure ?_⟩
      obtain ⟨o', es', ep', ho', hx', hd', he', _, hnd'⟩ := dd
      refine ⟨.ref s.heap.objs.size, upd H2 s.heap.objs.size (.dT [(kk, y)]), d_write (t' := tk2) (ob := .dT [(kk, y)]) I2 (by rw [e]; trivial) hs ⟨o', ho'⟩ ⟨(by show 1 ≤ sizeLine; decide), hsys, [(kk, b, wv)], .cons ⟨rfl, ?_, r2⟩ .nil, o', es', ep', ho', hx', hd', he', hnd'⟩, rfl, q2⟩
      show upd H2 s.heap.objs.size _ b = _
      rw [upd_ne (ne_of eb e (fun z => nomatch z))]
      exact eb
/-- sorted(d), d a dict whose keys are tuples of numbers -/
def rSortedDT (K : PySem.W.Frag) (n : Nat) (B : Int) : List V → Hp → VK → Prop := fun xs H Q => ∃ (d : Addr) (kvs : List (List Key × V)) (ks : List (List Int)), xs = [V.ref d] ∧ Rd H d (.dT kvs) ∧ kvs.map (·.1) = ks.map (fun k => k.map Sum.inl) ∧ kvs.length < 64 ∧ (∀ k ∈ ks, k.length = n ∧ TS.Bd B k) ∧
  ∀ (L : List (Addr × List Int)) (p : Addr), (∀ q ∈ L, H q.1 = some (.tup (q.2.map V.int))) → (L.map (·.2)).Perm ks → L.Pairwise (fun q r => TS.code B q.2 ≤ TS.code B r.2) → H p = none → Q (.ref p) (upd H p (.lst (L.map fun q => V.ref q.1)))
theorem map_kV_inl (k : List Int) : (k.map Sum.inl : List Key).map kV = k.map V.int := by
  rw [List.map_map]; rfl
theorem cr_sortedDT {n : Nat} {B : Int} (hn1 : 1 ≤ n) (hc : X.calm = true) : CallR X (.builtin "sorted") (rSortedDT X.K n B) := by
  intro pins s σ H xs us Q I r h
  obtain ⟨d, kvs, ks, rfl, hd, hks, h64, hB, q⟩ := h
  obtain ⟨u, rfl, rx⟩ := r.one
  cases rx
  obtain ⟨z, hs, es0, pr, o, es, ep, ho, hx, hdt, he, hnd⟩ := (show ObjOk X.prog X.w H s.heap d (.dT kvs) from hd.ok I.hok)
  have l1 : es.size = es0.length := size_of_entries he
  have l2 : kvs.length = es0.length := Paired.length pr
  -- the keys with their addresses, in order
  have key : ∀ (kvs : List (List Key × V)) (es0 : List (List Key × Addr × Value)) (ks : List (List Int)), kvs.map (·.1) = ks.map (fun k => k.map Sum.inl) →
      Paired (fun (p : List Key × V) (q : List Key × Addr × Value) => p.1 = q.1 ∧ H q.2.1 = some (.tup (p.1.map kV)) ∧ RelV p.2 q.2.2) kvs es0 →
      ∃ L : List (Addr × List Int), L.map (·.2) = ks ∧ L.map (·.1) = es0.map (fun x => x.2.1) ∧ ∀ p ∈ L, H p.1 = some (.tup (p.2.map V.int)) := by
    intro kvs es0 ks hks pr
    induction pr generalizing ks with
    | nil =>
      cases ks with
      | nil => exact ⟨[], rfl, rfl, fun p hp => absurd hp (by simp)⟩
      | cons => simp at hks
    | @cons a b as bs h t ih =>
      cases ks with
      | nil => simp at hks
      | cons k ks =>
        rw [List.map_cons, List.map_cons] at hks
        injection hks with e1 e2
        obtain ⟨L, a1, a2, a3⟩ := ih ks e2
        refine ⟨(b.2.1, k) :: L, by rw [List.map_cons, a1], by rw [List.map_cons, List.map_cons, a2], fun p hp => ?_⟩
        rcases List.mem_cons.mp hp with z | z
        · subst z
          have h2 := h.2.1
          rw [e1, map_kV_inl] at h2
          exact h2
        · exact a3 p z
  obtain ⟨L, hL1, hL2, hL3⟩ := key kvs es0 ks hks pr
  refine Calls.call_function_entry PyProof.Rows.kind_sorted PyProof.Rows.plain_sorted PyProof.Rows.entry_sorted (PyProof.Rows.args_sorted1 _) ?_
  unfold Builtin.«sorted»
  refine wpAny_bind (m := checkCount "sorted" 1 1 _) (wpAny_pure ?_)
  refine wpAny_bind (PySem.W.kdu_collect (A := X.A.in1) (kdl_raw hs hx hdt) (I.ok.hd hc) ho (by rw [sizeLine_eq]; omega) fun h' tk acc hk it => ?_)
  have ea : acc.toList = L.map fun x => Value.ref x.1 := by
    have hl : acc.toList.length = es0.length := by rw [Array.length_toList, it.1]; exact l1
    have e0 : (L.map fun x => Value.ref x.1) = es0.map fun x => Value.ref x.2.1 := by
      have := congrArg (List.map Value.ref) hL2
      rw [List.map_map, List.map_map] at this
      exact this
    rw [e0]
    apply List.ext_getElem?
    intro j
    rw [List.getElem?_map]
    cases hj : acc.toList[j]? with
    | none =>
      have h1 := List.getElem?_eq_none_iff.mp hj
      rw [List.getElem?_eq_none (by omega)]
      all_goals rfl
    | some v =>
      obtain ⟨en, hen, hv⟩ := it.2 j v (by rw [← Array.getElem?_toList]; exact hj)
      have qe := entry_at he j
      rw [hen] at qe
      cases hb : es0[j]? with
      | none =>
        rw [hb] at qe
        exact nomatch (show some en = none from qe)
      | some b =>
        rw [hb] at qe
        have e2 : en = entryOfKey (tupleKind (mixKind X.prog X.w)) b := Option.some.inj qe
        rw [hv, e2]
        all_goals rfl
  have hlL : L.length = es0.length := by have := congrArg List.length hL2; simpa using this
  have hal : acc.toList.length = L.length := by rw [ea, List.length_map]
  have I1 : Inv X pins σ H { s with heap := h', toks := tk } := I.kept hk
  refine wpAny_bind (wpAny_newList ?_ (by rw [hal, sizeLine_eq]; omega))
  have hoL : (h'.push (seqObj "list" acc.toList.toArray 0)).get? h'.objs.size = some (seqObj "list" acc.toList.toArray 0) := Heap.get?_push_size _ rfl
  have tkI : ∀ q ∈ L, TS.TupInts (h'.push (seqObj "list" acc.toList.toArray 0)) (.ref q.1) q.2 := fun q hq =>
    (tupI_raw I1 (SqT.of (hL3 q hq))).keeps fun b o e hc => Heap.get?_push_of_some _ e
  have x : TS.TupsOk (h'.push (seqObj "list" acc.toList.toArray 0)) n B acc.toList := fun v hv => by
    rw [ea] at hv
    obtain ⟨q, hq, e⟩ := List.mem_map.mp hv
    rw [← e]
    have hkm : q.2 ∈ ks := by rw [← hL1]; exact List.mem_map.mpr ⟨q, hq, rfl⟩
    exact ⟨q.2, tkI q hq, (hB _ hkm).1, (hB _ hkm).2⟩
  show wpAny _ _ _ _ _ { s with heap := h'.push (seqObj "list" acc.toList.toArray 0), toks := tk }
  refine wpAny_bind (wpAny_holding (TS.call_sort_tups (s := { s with heap := h'.push (seqObj "list" acc.toList.toArray 0), toks := tk }) hoL (by rw [hal]; omega) hn1 x fun out a1 a2 => ?_))
  obtain ⟨c, hcc⟩ := PyProof.Rows.sortedHeap_at (vs := acc.toList) (out := out) hoL
  have ord : ∀ vs : List Value, (∀ v ∈ vs, ∃ q ∈ L, v = Value.ref q.1) → ∃ L1 : List (Addr × List Int), vs = L1.map (fun q => Value.ref q.1) ∧ ∀ q ∈ L1, q ∈ L := by
    intro vs
    induction vs with
    | nil => intro _; exact ⟨[], rfl, fun q hq => (by cases hq)⟩
    | cons v vs ih =>
      intro hv
      obtain ⟨q, hq, e⟩ := hv v List.mem_cons_self
      obtain ⟨L1, e1, hs⟩ := ih fun u hu => hv u (List.mem_cons_of_mem _ hu)
      refine ⟨q :: L1, by rw [List.map_cons, e, e1], fun r hr => ?_⟩
      rcases List.mem_cons.mp hr with z | z
      · rw [z]; exact hq
      · exact hs r z
  obtain ⟨L', e', hs'⟩ := ord out.toList fun v hv => by
    have hv' := a1.mem_iff.mp hv
    rw [ea] at hv'
    obtain ⟨q, hq, e⟩ := List.mem_map.mp hv'
    exact ⟨q, hq, e.symm⟩
  -- an address has one key, a key one address: the map from references to keys
  have kf : ∀ q ∈ L, TS.intsOf (h'.push (seqObj "list" acc.toList.toArray 0)) (.ref q.1) = q.2 := fun q hq => (tkI q hq).ints
  have pk : (L'.map (·.2)).Perm ks := by
    have p1 : (out.toList.map (TS.intsOf (h'.push (seqObj "list" acc.toList.toArray 0)))).Perm (acc.toList.map (TS.intsOf (h'.push (seqObj "list" acc.toList.toArray 0)))) := a1.map _
    rw [e', ea, List.map_map, List.map_map] at p1
    rw [← hL1]
    have f1 : L'.map (TS.intsOf (h'.push (seqObj "list" acc.toList.toArray 0)) ∘ fun q => Value.ref q.1) = L'.map (·.2) := List.map_congr_left fun q hq => kf q (hs' q hq)
    have f2 : L.map (TS.intsOf (h'.push (seqObj "list" acc.toList.toArray 0)) ∘ fun q => Value.ref q.1) = L.map (·.2) := List.map_congr_left fun q hq => kf q hq
    rw [ea] at f1 f2
    rw [f1, f2] at p1
    exact p1
  have pw : L'.Pairwise (fun q r => TS.code B q.2 ≤ TS.code B r.2) := by
    rw [e'] at a2
    refine List.Pairwise.imp_of_mem (fun {q r} hq hr hle => ?_) (List.pairwise_map.mp a2)
    have f1 := kf q (hs' q hq)
    have f2 := kf r (hs' r hr)
    rw [← f1, ← f2]
    exact hle
  have hlen : (L'.map fun q => V.ref q.1).length ≤ sizeLine := by
    have := a1.length_eq
    rw [e', List.length_map, hal] at this
    rw [List.length_map, sizeLine_eq]; omega
  refine wpAny_pure ⟨_, rfl, .ref h'.objs.size, upd H h'.objs.size (.lst (L'.map fun q => V.ref q.1)), I1.laid (t' := tk) (fun b u e => ?_) (Nat.le_refl _)
    (show ObjOk X.prog X.w _ _ _ (.lst (L'.map fun q => V.ref q.1)) from ⟨hlen, out.toList, c, by rw [e']; exact vals_of_refs L', by rw [Array.toArray_toList]; exact hcc⟩), rfl, q L' _ (fun r hr => hL3 r (hs' r hr)) pk pw (I1.hok.fresh (Nat.le_refl _))⟩
  have hb : b < h'.objs.size := Heap.lt_size e
  rw [PyProof.Rows.sortedHeap_old (Nat.ne_of_lt hb) (by rw [size_push']; exact Nat.lt_succ_of_lt hb)]
  exact Heap.get?_push_of_some _ e
/-- X(), X an own exception class without own __init__ -/
theorem pmk_own0 {C : Addr} {bmB : List Value} {B newId initId : String} {x : Str} {p pos : Pos} (F : ExcBaseFacts B newId initId bmB) (q : PySem.W.excIn X.K C bmB newId = true) (gC : X.mg x = some (.ref C))
    (kC : PySem.W.keepIn X.K (.ref C) = true) (r : Raises X (.ref C)) (hg : Gl X x) (hdb : (x == ("__debug__" : Str)) = false := by decide) :
    PMk X (.Call (.Name x p) [] [] pos) (fun _ H Q => Q (.ref C) none H) := by
  intro pins s σ H Q I h
  refine wpAny_Call_Name_kw (ld_glob I hg gC ?_ hdb)
  refine PySem.W.callWith_K0 I.kIn kC ?_
  show wpAny _ _ (call (.ref C) []) _ _ _
  obtain ⟨bm, N, nm, qn, bs, hdct, sn, sub, ab, col, dd, k0, k1, k2, k3, k5, mN, hC, hN, hni, T⟩ := exc_obj I.kIn q
  refine wpAny_call_exc_subT F T hC hN hni (fun h' e hm => ?_) (Nat.zero_le _)
  exact mk_of I hm r h (I.hok.gone hm.new)
theorem pi_or {tg e : Expr} {w1 w2 : TI} (h1 : PI X tg e w1) (h2 : PI X tg e w2) : PI X tg e (fun σ H R => w1 σ H R ∨ w2 σ H R) :=
  ⟨fun pins s σ H R I h => h.elim (fun z => h1.run pins s σ H R I z) fun z => h2.run pins s σ H R I z⟩
end
end L2

set_option Elab.async false
set_option linter.all false
set_option maxRecDepth 100000
set_option maxHeartbeats 4000000
/-! Srt: sorted pairs: the plain sort, and sorted of a list, a dict, a set over data. -/
namespace G
open PySem L2
def leP (a b : P2) : Bool := decide (a.1 < b.1) || (decide (a.1 = b.1) && decide (a.2 ≤ b.2))
def ltP (a b : P2) : Bool := decide (a.1 < b.1) || (decide (a.1 = b.1) && decide (a.2 < b.2))
theorem leP_iff {a b : P2} : leP a b = true ↔ a.1 < b.1 ∨ (a.1 = b.1 ∧ a.2 ≤ b.2) := by simp [leP]
theorem ltP_iff {a b : P2} : ltP a b = true ↔ a.1 < b.1 ∨ (a.1 = b.1 ∧ a.2 < b.2) := by simp [ltP]
theorem leP_total (a b : P2) : leP a b = true ∨ leP b a = true := by rw [leP_iff, leP_iff]; omega
theorem leP_trans {a b c : P2} (h : leP a b = true) (k : leP b c = true) : leP a c = true := by rw [leP_iff] at *; omega
theorem leP_anti {a b : P2} (h : leP a b = true) (k : leP b a = true) : a = b := by
  rw [leP_iff] at *
  exact Prod.ext (by omega) (by omega)
theorem leP_of_lt {a b : P2} (h : ltP a b = true) : leP a b = true := by rw [leP_iff]; rw [ltP_iff] at h; omega
theorem ltP_of_le {a b : P2} (h : leP a b = true) (k : a ≠ b) : ltP a b = true := by
  rw [leP_iff] at h; rw [ltP_iff]
  rcases h with h | ⟨h, h2⟩
  · exact .inl h
  · refine .inr ⟨h, ?_⟩
    rcases Int.lt_or_eq_of_le h2 with z | z
    · exact z
    · exact absurd (Prod.ext h z) k
def insP (a : P2) : List P2 → List P2
  | [] => [a]
  | b :: l => if leP a b then a :: b :: l else b :: insP a l
def sortP : List P2 → List P2
  | [] => []
  | a :: l => insP a (sortP l)
theorem insP_perm (a : P2) : ∀ l, (insP a l).Perm (a :: l)
  | [] => .refl _
  | b :: l => by
    unfold insP
    split
    · exact .refl _
    · exact ((insP_perm a l).cons b).trans (.swap a b l)
theorem sortP_perm : ∀ l, (sortP l).Perm l
  | [] => .refl _
  | a :: l => (insP_perm a _).trans ((sortP_perm l).cons a)
abbrev SortedP (l : List P2) : Prop := l.Pairwise fun a b => leP a b = true
theorem insP_sorted (a : P2) : ∀ {l}, SortedP l → SortedP (insP a l)
  | [], _ => .cons (fun _ h => by cases h) .nil
  | b :: l, h => by
    obtain ⟨h1, h2⟩ := List.pairwise_cons.mp h
    unfold insP
    split
    · rename_i hab
      refine .cons (fun c hc => ?_) h
      rcases List.mem_cons.mp hc with z | z
      · subst z; exact hab
      · exact leP_trans hab (h1 c z)
    · rename_i hab
      refine .cons (fun c hc => ?_) (insP_sorted a h2)
      rcases List.mem_cons.mp ((insP_perm a l).mem_iff.mp hc) with z | z
      · subst z
        rcases leP_total c b with q | q
        · exact absurd q hab
        · exact q
      · exact h1 c z
theorem sortP_sorted : ∀ l, SortedP (sortP l)
  | [] => .nil
  | a :: l => insP_sorted a (sortP_sorted l)
theorem sorted_perm_eq : ∀ {l m : List P2}, l.Perm m → SortedP l → SortedP m → l = m
  | [], m, p, _, _ => by rw [List.nil_perm.mp p]
  | a :: l, [], p, _, _ => by simpa using p.length_eq
  | a :: l, b :: m, p, h, k => by
    obtain ⟨h1, h2⟩ := List.pairwise_cons.mp h
    obtain ⟨k1, k2⟩ := List.pairwise_cons.mp k
    have e : a = b := by
      have ha : a ∈ b :: m := p.mem_iff.mp List.mem_cons_self
      have hb : b ∈ a :: l := p.mem_iff.mpr List.mem_cons_self
      rcases List.mem_cons.mp ha with z | z
      · exact z
      · rcases List.mem_cons.mp hb with y | y
        · exact y.symm
        · exact leP_anti (h1 b y) (k1 a z)
    subst e
    rw [sorted_perm_eq (List.Perm.cons_inv p) h2 k2]
theorem sortP_eq {l m : List P2} (p : m.Perm l) (h : SortedP m) : sortP l = m := sorted_perm_eq ((sortP_perm l).trans p.symm) (sortP_sorted l) h
theorem sortP_of_sorted {l : List P2} (h : SortedP l) : sortP l = l := sortP_eq (.refl _) h
theorem sortP_length (l : List P2) : (sortP l).length = l.length := (sortP_perm l).length_eq
theorem mem_sortP {l : List P2} {a : P2} : a ∈ sortP l ↔ a ∈ l := (sortP_perm l).mem_iff
/-- without duplicates -/
def ddP : List P2 → List P2
  | [] => []
  | a :: l => if a ∈ l then ddP l else a :: ddP l
theorem mem_ddP {a : P2} : ∀ {l : List P2}, a ∈ ddP l ↔ a ∈ l
  | [] => by simp [ddP]
  | b :: l => by
    unfold ddP
    split
    · rename_i h
      rw [mem_ddP, List.mem_cons]
      constructor
      · exact .inr
      · rintro (z | z)
        · subst z; exact h
        · exact z
    · rw [List.mem_cons, List.mem_cons, mem_ddP]
theorem ddP_nodup : ∀ l : List P2, (ddP l).Nodup
  | [] => .nil
  | b :: l => by
    unfold ddP
    split
    · exact ddP_nodup l
    · rename_i h
      exact List.nodup_cons.mpr ⟨fun z => h (mem_ddP.mp z), ddP_nodup l⟩
theorem ddP_of_nodup : ∀ {l : List P2}, l.Nodup → ddP l = l
  | [], _ => rfl
  | b :: l, h => by
    obtain ⟨h1, h2⟩ := List.nodup_cons.mp h
    unfold ddP
    rw [if_neg h1, ddP_of_nodup h2]
/-! ### to the layer's code of pairs -/
abbrev BdP (p : P2) : Prop := 0 ≤ p.1 ∧ p.1 < 64 ∧ 0 ≤ p.2 ∧ p.2 < 64
theorem leP_code {a b : P2} (ha : BdP a) (hb : BdP b) (h : TS.code 64 [a.1, a.2] ≤ TS.code 64 [b.1, b.2]) : leP a b = true := by
  rw [code_pair, code_pair] at h
  rw [leP_iff]; omega
theorem bd_of {p : P2} (h : BdP p) : TS.Bd 64 [p.1, p.2] := fun m hm => by
  rcases List.mem_cons.mp hm with z | z
  · subst z; exact ⟨h.1, h.2.1⟩
  · rw [List.mem_singleton.mp z]; exact ⟨h.2.2.1, h.2.2.2⟩
abbrev l2 (p : P2) : List Int := [p.1, p.2]
theorem l2_inj {p q : P2} (h : l2 p = l2 q) : p = q := by
  injection h with h1 h2
  injection h2 with h2
  exact Prod.ext h1 h2
theorem DdAll.pmap {I : Hp} : ∀ {xs ys : List V} {ps : List P2}, ys.Perm xs → DdAll I xs (ps.map dP) → ∃ qs : List P2, qs.Perm ps ∧ DdAll I ys (qs.map dP) := by
  intro xs ys ps h
  induction h generalizing ps with
  | nil =>
    intro k
    cases ps with
    | nil => exact ⟨[], .refl _, .nil⟩
    | cons p ps => cases k
  | cons x p ih =>
    intro k
    cases ps with
    | nil => cases k
    | cons p ps =>
      cases k with
      | cons a b =>
        obtain ⟨qs, h1, h2⟩ := ih b
        exact ⟨p :: qs, h1.cons p, .cons a h2⟩
  | swap x y l =>
    intro k
    cases ps with
    | nil => cases k
    | cons p ps =>
      cases k with
      | cons a b =>
        cases ps with
        | nil => cases b
        | cons q ps =>
          cases b with
          | cons c d => exact ⟨q :: p :: ps, .swap p q ps, .cons c (.cons a d)⟩
  | trans p q ih1 ih2 =>
    intro k
    obtain ⟨qs, h1, h2⟩ := ih2 k
    obtain ⟨rs, h3, h4⟩ := ih1 h2
    exact ⟨rs, h3.trans h1, h4⟩
theorem Dd.pair {I : Hp} {v : V} {p : P2} (h : Dd I v (dP p)) : ∃ t, v = .ref t ∧ I t = some (.tup [.int p.1, .int p.2]) := by
  cases h with
  | tup e t =>
    obtain ⟨v, w, rfl, a, b⟩ := t.two
    cases a; cases b
    exact ⟨_, rfl, e⟩
theorem Dd.of_pair {I : Hp} {t : Addr} {p : P2} (h : I t = some (.tup [.int p.1, .int p.2])) : Dd I (.ref t) (dP p) := .tup h (.cons (.int _) (.cons (.int _) .nil))
theorem DdAll.mem {I : Hp} : ∀ {xs : List V} {ds : List D} {x : V}, DdAll I xs ds → x ∈ xs → ∃ d ∈ ds, Dd I x d
  | _, _, _, .nil, h => by cases h
  | _, _, x, .cons a b, h => by
    rcases List.mem_cons.mp h with z | z
    · subst z; exact ⟨_, List.mem_cons_self, a⟩
    · obtain ⟨d, h1, h2⟩ := DdAll.mem b z; exact ⟨d, List.mem_cons_of_mem _ h1, h2⟩
theorem tupI_pair {K : PySem.W.Frag} {I H : Hp} (s : Same I H) {v : V} {p : P2} (h : Dd I v (dP p)) : TupI K H v (l2 p) := by
  obtain ⟨t, rfl, e⟩ := h.pair
  exact ⟨t, rfl, SqT.of (s _ _ e)⟩
section
variable {B : Bs} {Γ : List En} {ta : TE} {K : PySem.W.Frag}
/-- sorted(xs) -/
theorem ev_sortedL {ps : List P2} (h : EvE B ta Γ (.d (.list (ps.map dP)))) (hz : ps.length < 64) (hb : ∀ p ∈ ps, BdP p) : EvE B (tCB (rSortU K 2 64) (tCons ta tNil)) Γ (.d (.list ((sortP ps).map dP))) := fun σ ts H s Q q => h σ ts H s _ fun v H1 s1 => by
  obtain ⟨hl, I, g, k, e⟩ := s1.one
  cases k with
  | lst e1 t =>
    rename_i xs
    refine ⟨_, xs, rfl, SqL.of (g.s _ _ e1), by rw [t.length, List.length_map]; exact hz, fun x hx => ?_, fun ys p py pw hp => q _ _ ?_⟩
    · obtain ⟨d, hd, k⟩ := t.mem hx
      obtain ⟨r, hr, rfl⟩ := List.mem_map.mp hd
      exact ⟨l2 r, tupI_pair g.s k, rfl, bd_of (hb r hr)⟩
    · obtain ⟨qs, h1, h2⟩ := DdAll.pmap py t
      have srt : SortedP qs := by
        have hbq : ∀ p ∈ qs, BdP p := fun p hp => hb p (h1.mem_iff.mp hp)
        clear py h1 e1 hp
        induction qs generalizing ys with
        | nil => exact .nil
        | cons q qs ih =>
          cases h2 with
          | cons a b =>
            obtain ⟨pw1, pw2⟩ := List.pairwise_cons.mp pw
            refine .cons (fun r hr => ?_) (ih _ pw2 b fun p hp => hbq p (List.mem_cons_of_mem _ hp))
            obtain ⟨i, hi⟩ := List.getElem?_of_mem hr
            obtain ⟨x, hx, kx⟩ := b.get (i := i) (d := dP r) (by rw [List.getElem?_map, hi]; rfl)
            exact leP_code (hbq q List.mem_cons_self) (hbq r (List.mem_cons_of_mem _ hr)) (pw1 x (List.mem_of_getElem? hx) _ _ (tupI_pair g.s a) (tupI_pair g.s kx))
      rw [sortP_eq h1 srt]
      exact Stt.fin hl g e (Gr.new g.s hp) (.lst upd_same (h2.mono (same_new _ (none_of_same g.s hp))))
theorem kv_keys {I : Hp} : ∀ {ks : List (List Key × V)} {kvs : List (P2 × D)}, KvOk I ks kvs → ks.map (·.1) = (kvs.map fun p => l2 p.1).map fun k => k.map Sum.inl
  | _, _, .nil => rfl
  | _, _, .cons hh t => by rw [List.map_cons, List.map_cons, List.map_cons, kv_keys t, hh.1]; rfl
/-- sorted(d), d a dict with pairs for keys -/
theorem ev_sortedD {kvs : List (P2 × D)} (h : EvE B ta Γ (.ft kvs)) (hz : kvs.length < 64) (hb : ∀ p ∈ kvs, BdP p.1) : EvE B (tCB (rSortedDT K 2 64) (tCons ta tNil)) Γ (.d (.list ((sortP (kvs.map (·.1))).map dP))) := fun σ ts H s Q q => h σ ts H s _ fun v H1 s1 => by
  obtain ⟨hl, I, g, e⟩ := s1
  obtain ⟨v', hv, p, ks, e1, hI, m⟩ := e.ok _ List.mem_cons_self (fun z => nomatch z)
  have hv : v = v' := Option.some.inj hv
  subst hv e1
  have hk := kv_keys m
  have hlen : ks.length = kvs.length := Paired.length m
  refine ⟨p, ks, _, rfl, .inl (g.s _ _ hI), hk, by omega, fun k hk => ?_, fun L p' hL pm pw hp => q _ _ ?_⟩
  · obtain ⟨r, hr, rfl⟩ := List.mem_map.mp hk
    exact ⟨rfl, bd_of (hb r hr)⟩
  · have s2 : Gr T0 I H1 (addT I H1 (L.map (·.1))) H1 := Gr.tups g.s fun x hx => by
      obtain ⟨r, hr, rfl⟩ := List.mem_map.mp hx
      exact ⟨_, hL r hr⟩
    -- the keys, as pairs
    have keys : ∀ L : List (Addr × List Int), (∀ r ∈ L, ∃ p ∈ kvs.map (·.1), r.2 = l2 p) → ∃ qs : List P2, L.map (·.2) = qs.map l2 := by
      intro L
      induction L with
      | nil => exact fun _ => ⟨[], rfl⟩
      | cons r L ih =>
        intro hh
        obtain ⟨p, _, e⟩ := hh r List.mem_cons_self
        obtain ⟨qs, eq⟩ := ih fun r hr => hh r (List.mem_cons_of_mem _ hr)
        exact ⟨p :: qs, by rw [List.map_cons, List.map_cons, eq, e]⟩
    obtain ⟨qs, eq⟩ := keys L fun r hr => by
      have : r.2 ∈ kvs.map fun p => l2 p.1 := pm.mem_iff.mp (List.mem_map.mpr ⟨r, hr, rfl⟩)
      obtain ⟨x, hx, ex⟩ := List.mem_map.mp this
      exact ⟨x.1, List.mem_map.mpr ⟨x, hx, rfl⟩, ex.symm⟩
    have pq : qs.Perm (kvs.map (·.1)) := by
      rw [eq] at pm
      have z : (kvs.map fun p => l2 p.1) = (kvs.map (·.1)).map l2 := by rw [List.map_map]; rfl
      rw [z] at pm
      have w := pm.map fun k : List Int => ((k.getD 0 0, k.getD 1 0) : P2)
      rw [List.map_map, List.map_map] at w
      have f : ((fun k : List Int => ((k.getD 0 0, k.getD 1 0) : P2)) ∘ l2) = id := by funext x; rfl
      rw [f, List.map_id, List.map_id] at w
      exact w
    have hbq : ∀ p ∈ qs, BdP p := fun p hp => by
      obtain ⟨x, hx, ex⟩ := List.mem_map.mp (pq.mem_iff.mp hp)
      rw [← ex]; exact hb x hx
    have dall : DdAll (addT I H1 (L.map (·.1))) (L.map fun q => V.ref q.1) (qs.map dP) := by
      have gen : ∀ (A : List Addr) (L : List (Addr × List Int)) (qs : List P2), L.map (·.2) = qs.map l2 → (∀ r ∈ L, H1 r.1 = some (.tup (r.2.map V.int))) → (∀ r ∈ L, r.1 ∈ A) → DdAll (addT I H1 A) (L.map fun q => V.ref q.1) (qs.map dP) := by
        intro A L
        induction L with
        | nil =>
          intro qs e _ _
          cases qs with
          | nil => exact .nil
          | cons => simp at e
        | cons r L ih =>
          intro qs e h1 h2
          cases qs with
          | nil => simp at e
          | cons q qs =>
            rw [List.map_cons, List.map_cons] at e
            injection e with e1 e2
            have hr := h1 r List.mem_cons_self
            rw [e1] at hr
            exact .cons (Dd.of_pair (addT_in g.s (h2 r List.mem_cons_self) hr)) (ih qs e2 (fun r hr => h1 r (List.mem_cons_of_mem _ hr)) fun r hr => h2 r (List.mem_cons_of_mem _ hr))
      exact gen _ L qs eq hL fun r hr => List.mem_map.mpr ⟨r, hr, rfl⟩
    have srt : SortedP qs := by
      have pw2 : (L.map (·.2)).Pairwise fun a b => TS.code 64 a ≤ TS.code 64 b := List.pairwise_map.mpr pw
      rw [eq] at pw2
      exact List.Pairwise.imp_of_mem (fun {a b} ha hb' h => leP_code (hbq a ha) (hbq b hb') h) ((List.pairwise_map (f := l2) (R := fun a b => TS.code 64 a ≤ TS.code 64 b)).mp pw2)
    rw [sortP_eq pq srt]
    have g3 := s2.trans (Gr.new (o := .lst (L.map fun q => V.ref q.1)) s2.s hp)
    exact Stt.fin hl g e.tail g3 (.lst upd_same (dall.mono (same_new _ (none_of_same s2.s hp))))
end
end G

set_option Elab.async false
set_option linter.all false
set_option maxRecDepth 100000
set_option maxHeartbeats 4000000
/-! Xs: set of a tuple of tuples of ints. -/
namespace L2
open PySem PySem.Spec PyProof.Rows
section
variable {P : Program} {w : World} {A : Around} {E : Value → Shared → Prop} {s : Shared}
/-- the set at its start -/
abbrev set0 (w : World) : Obj := { cls := .type "set", dict := none, data := .set #[] 0 (.fresh 0 0 (!w.params.followText "set-order")) }
/-- what is wanted behind set(t) -/
abbrev SetEnd (P : Program) (w : World) (s : Shared) (ks : List (Addr × List Int)) (h' : Heap) (L : List (Addr × List Int)) (es : Array (Int × Value)) (ep : Nat) (t : SetTable) : Prop :=
  SetTR P w h' s.heap.objs.size L es ep t ∧ Got ks ks.length L ∧ ∀ b o, s.heap.get? b = some o → h'.get? b = some o
/-- the filling, by set.__init__, from a tuple -/
theorem fill_tup {l : Addr} {items : Array Value} (ks : List (Addr × List Int)) (hh : A.handled = none) (hl : s.heap.IsTuple l items) (hit : items.toList = ks.map fun p => Value.ref p.1)
    (hk : ∀ p ∈ ks, IsT P w s.heap p.2 p.1) (hfew : ks.length < 64) (hu : A.units + 2 < cLine) {R : PySem.Fin → Shared → Prop} {E' : Value → Shared → Prop}
    (h : ∀ h' tk L es ep t, SetEnd P w s ks h' L es ep t → R (.done (.ret .none)) { s with heap := h', toks := tk }) :
    wpAny (model P w) A (Builtin.«set.__init__» ⟨[.ref s.heap.objs.size, .ref l], []⟩) R E' { s with heap := s.heap.push (set0 w) } := by
  have size1 : items.size = ks.length := by
    have := congrArg List.length hit
    simpa using this
  obtain ⟨⟨ocls, odict, odata, oslots⟩, hol, hcl, nl, hdl⟩ := hl
  dsimp only at hcl hdl
  subst hcl hdl
  -- the heap with the empty set: the set, the tuple, where the iterator will lie
  generalize eh : s.heap.push (set0 w) = g
  have gS : g.get? s.heap.objs.size = some (set0 w) := by rw [← eh]; exact Heap.get?_push_size _ rfl
  have gold : ∀ b o, s.heap.get? b = some o → g.get? b = some o := fun b o e => by rw [← eh]; exact Heap.get?_push_of_some _ e
  have gsz : g.objs.size = s.heap.objs.size + 1 := by rw [← eh]; exact Heap.size_push ..
  have gT := gold _ _ hol
  have tup1 : g.IsTuple l items := ⟨_, gT, rfl, nl, rfl⟩
  have ltl : l < s.heap.objs.size := Heap.lt_size hol
  have no1 := F.sub_tuple_set
  have no2 := F.sub_tuple_frozenset
  have no3 : (Value.type "tuple" == Value.type "dict") = false := by decide
  have empty : ∀ b, s.heap.objs.size ≤ b → s.heap.get? b = none := fun b hb => Heap.get?_none_of_le hb
  unfold Builtin.«set.__init__» noKeywords Builtin.Frozenset.updateFrom
  generalize hPI : pyIter = PI
  wp_walk
  subst hPI
  refine wpAny_pyIter_tuple tup1 (wpAny_bind (wpAny_runValue ?_))
  have apart1 : l ≠ g.objs.size := by rw [gsz]; exact Nat.ne_of_lt (Nat.lt_succ_of_lt ltl)
  have apart2 : s.heap.objs.size ∉ [g.objs.size, l] := by
    rw [gsz]
    intro z
    rcases List.mem_cons.mp z with z | z
    · exact absurd z (Nat.ne_of_lt (Nat.lt_succ_self _))
    · exact absurd (List.mem_singleton.mp z) (Nat.ne_of_gt ltl)
  have walk := (Walks.tuple (prog := P) (w := w) (A := A.in1) (show A.in1.handled = none from hh) g.objs.size l apart1 items).toS
  refine set_update_tups walk s.heap.objs.size apart2 ks size1 hfew (fun i v hv => ?_) s.heap hk (empty _ (Nat.le_refl _)) (fun b hb => empty b ?_) (by show A.units + 1 < cLine; omega) (items.size - 0) 0 _ (by omega) (Nat.zero_le _)
    ⟨⟨_, Heap.get?_push_size _ rfl, rfl, rfl⟩, tup1.push _⟩ (fun b o e => Heap.get?_push_of_some _ (gold b o e)) ⟨[], #[], 0, _, setTR_fresh (Heap.get?_push_of_some _ gS), Got.zero ks⟩ fun s' L es ep t hm hS' g' hkp => ?_
  · have q : items.toList[i]? = some v := by rw [Array.getElem?_toList]; exact hv
    rw [hit, List.getElem?_map] at q
    obtain ⟨p, hp, e⟩ := Option.map_eq_some_iff.mp q
    exact ⟨p, hp, e.symm⟩
  · rw [List.mem_singleton.mp hb, gsz]
    exact Nat.le_succ _
  · rw [size1] at g'
    have e : s' = { s with heap := s'.heap, toks := s'.toks } := by
      have eg : s'.gens = s.gens := hm.gens
      have ed : s'.drawn = s.drawn := hm.drawn
      have eo : s'.os = s.os := hm.os
      cases s'
      cases s
      dsimp only at eg ed eo
      subst eg ed eo
      rfl
    rw [e]
    exact wpAny_pure (wpAny_pure (h _ _ L es ep t ⟨hS', g', hkp⟩))
/-- set(t), t a tuple of tuples of ints -/
theorem call_set_tupT {l : Addr} {items : Array Value} (ks : List (Addr × List Int)) {Q : Value → Shared → Prop} (hh : A.handled = none) (hl : s.heap.IsTuple l items) (hit : items.toList = ks.map fun p => Value.ref p.1)
    (hk : ∀ p ∈ ks, IsT P w s.heap p.2 p.1) (hfew : ks.length < 64) (hu : A.units + 6 < cLine)
    (h : ∀ h' tk L es ep t, SetEnd P w s ks h' L es ep t → Q (.ref s.heap.objs.size) { s with heap := h', toks := tk }) :
    wpAny (model P w) A (call (.type "set") [.ref l]) Q E s := by
  obtain ⟨c, tl, hmro⟩ := F.called_set.mro
  have f1 := F.called_set.made
  have f2 := F.called_set.sub
  have f3 := F.called_set.notType
  have f4 := F.called_set.canCreate
  have f5 := F.typeCall_set_1 (.ref l)
  refine wpAny_call (codeAny_of_tree ?_)
  show wpAny _ _ (callAny (.type "set") _) _ _ _
  refine wpAny_pure ⟨Code.quiet_builtin _ (by decide +kernel), codeAny_builtin F.entry_type_call ?_⟩
  rw [Around.under_plain (weight_type_call_type "set" [.ref l] []) rfl]
  repeat (any_goals (first | assumption | wp_step))
  refine codeAny_mono (code_set_led1 (.ref l) (E := E) (Q₁ := fun obj s₁ => obj = .ref s.heap.objs.size ∧ s₁ = { s with heap := s.heap.push (set0 w) }) ⟨rfl, rfl⟩) fun r s₁ hr => ?_
  match r, hr with
  | .error e, hr => exact hr
  | .ok (.ret obj), hr =>
    obtain ⟨rfl, rfl⟩ := hr
    have tS : Shared.TypeIs { s with heap := s.heap.push (set0 w) } (.ref s.heap.objs.size) "set" := ⟨_, Heap.get?_push_size _ rfl, rfl⟩
    have f6 := F.called_set.init.lookup
    have f7 := F.called_set.init.bind (.ref s.heap.objs.size)
    repeat (any_goals (first | assumption | wp_step))
    refine codeAny_mono (codeAny_call_builtin (R := wants (fun r s₂ => r = .none ∧ ∃ h' tk L es ep t, s₂ = { s with heap := h', toks := tk } ∧ SetEnd P w s ks h' L es ep t) E) F.called_set.init.plain F.entry_set_init (check_set_init_1 tS ?_)) fun r₂ s₂ hr₂ => ?_
    · exact fill_tup ks (show _ = none by simp [hh]) hl hit hk hfew (by show A.units + 1 + 1 + 2 < cLine; omega) fun h' tk L es ep t z => ⟨rfl, h', tk, L, es, ep, t, rfl, z⟩
    · match r₂, hr₂ with
      | .error e, hr₂ => exact hr₂
      | .ok (.ret r), hr₂ =>
        obtain ⟨rfl, h', tk, L, es, ep, t, rfl, z⟩ := hr₂
        repeat (any_goals (first | assumption | wp_step))
        exact h _ _ _ _ _ _ z
      | .ok .next, hr₂ => exact hr₂.elim
      | .ok .brk, hr₂ => exact hr₂.elim
      | .ok .cont, hr₂ => exact hr₂.elim
  | .ok .next, hr => exact hr.elim
  | .ok .brk, hr => exact hr.elim
  | .ok .cont, hr => exact hr.elim
end
section
variable {X : Cx}
/-- set(t), t a tuple of tuples of ints -/
def rSetOfTT (K : PySem.W.Frag) (P : Program) (w : World) : List V → Hp → VK → Prop := fun xs H Q => ∃ (l : Addr) (ks : List (Addr × List Int)), xs = [V.ref l] ∧ SqT K H l (ks.map fun p => V.ref p.1) ∧ (∀ p ∈ ks, SqT K H p.1 (p.2.map V.int)) ∧ ks.length < 64 ∧
  ∀ a L, H a = none → (∀ p ∈ L, p ∈ ks) → (∀ p ∈ ks, p.2 ∈ L.map (·.2)) → Q (.ref a) (upd H a (SetTO P w a L))
theorem cr_setOfTT (hc : X.calm = true) (hu : X.A.units + 64 < cLine) : CallR X (.type "set") (rSetOfTT X.K X.prog X.w) := by
  intro pins s σ H xs us Q I r h
  obtain ⟨l, ks, rfl, hl, hk, hf, q⟩ := h
  obtain ⟨its, rv, pl, hz⟩ := I.tuple hl
  rw [Vals.ref1 r]
  refine call_set_tupT (P := X.prog) (w := X.w) (items := its.toArray) ks (I.ok.hd hc) pl (by simpa using refs_of_vals rv) (fun p hp => I.isT (hk p hp)) hf (by omega) fun h' tk L es ep t ⟨R, g, k⟩ => ?_
  refine ⟨.ref s.heap.objs.size, _, I.laid (t' := tk) k (Nat.le_refl _) (setTO_new R.t0), rfl, q _ L (I.hok.fresh (Nat.le_refl _)) (fun p hp => List.mem_of_mem_take (g.sub p hp)) fun p hp => g.all p (by rw [List.take_length]; exact hp)⟩
end
end L2
namespace G
open PySem L2
/-- sorted(set(t)) -/
theorem ev_sortedSet {B : Bs} {Γ : List En} {ta : TE} {K : PySem.W.Frag} {P : Program} {w : World} {ps : List P2} (h : EvE B ta Γ (.d (.tuple (ps.map dP)))) (hz : ps.length < 64) (hb : ∀ p ∈ ps, BdP p) :
    EvE B (tCB (rSortedT K P w) (tCons (tCB (rSetOfTT K P w) (tCons ta tNil)) tNil)) Γ (.d (.list ((sortP (ddP ps)).map dP))) := fun σ ts H s Q q => h σ ts H s _ fun v H1 s1 => by
  obtain ⟨hl, I, g, k, e⟩ := s1.one
  cases k with
  | tup e1 t =>
    rename_i a xs
    -- the items with their addresses
    have adr : ∀ (xs : List V) (ps : List P2), DdAll I xs (ps.map dP) → ∃ ks : List (Addr × List Int), xs = ks.map (fun p => V.ref p.1) ∧ ks.map (·.2) = ps.map l2 ∧ ∀ p ∈ ks, I p.1 = some (.tup (p.2.map V.int)) := by
      intro xs
      induction xs with
      | nil =>
        intro ps t
        cases ps with
        | nil => exact ⟨[], rfl, rfl, fun p hp => absurd hp (by simp)⟩
        | cons => cases t
      | cons x xs ih =>
        intro ps t
        cases ps with
        | nil => cases t
        | cons p ps =>
          cases t with
          | cons a b =>
            obtain ⟨ad, rfl, hp⟩ := a.pair
            obtain ⟨ks, h1, h2, h3⟩ := ih ps b
            refine ⟨(ad, l2 p) :: ks, by rw [h1]; rfl, by rw [List.map_cons, List.map_cons, h2], fun r hr => ?_⟩
            rcases List.mem_cons.mp hr with z | z
            · subst z; exact hp
            · exact h3 r z
    obtain ⟨ks, rfl, h2, h3⟩ := adr xs ps t
    have hkl : ks.length = ps.length := by have := congrArg List.length h2; simpa using this
    refine ⟨a, ks, rfl, SqT.of (g.s _ _ e1), fun p hp => SqT.of (g.s _ _ (h3 p hp)), by omega, fun b L hb0 hL hL2 => ?_⟩
    have g1 : Gr T0 I H1 I (upd H1 b (SetTO P w b L)) := Gr.newm g.s hb0
    have tupL : ∀ p ∈ L, I p.1 = some (.tup (p.2.map V.int)) := fun p hp => h3 p (hL p hp)
    have isP : ∀ p ∈ L, ∃ q ∈ ps, p.2 = l2 q := fun p hp => by
      have : p.2 ∈ ks.map (·.2) := List.mem_map.mpr ⟨p, hL p hp, rfl⟩
      rw [h2] at this
      obtain ⟨q, hq, e⟩ := List.mem_map.mp this
      exact ⟨q, hq, e.symm⟩
    refine ⟨b, L, 2, 64, rfl, upd_same, fun p hp => SqT.of (g1.s _ _ (tupL p hp)), by decide, fun p hp => ?_, fun L' p' pm nd few pw hp' => q _ _ ?_⟩
    · obtain ⟨r, hr, er⟩ := isP p hp
      rw [er]
      exact ⟨rfl, bd_of (hb r hr)⟩
    · -- the keys as pairs
      have keys : ∀ L : List (Addr × List Int), (∀ p ∈ L, ∃ q ∈ ps, p.2 = l2 q) → ∃ qs : List P2, L.map (·.2) = qs.map l2 ∧ ∀ q ∈ qs, q ∈ ps := by
        intro L
        induction L with
        | nil => exact fun _ => ⟨[], rfl, fun q hq => absurd hq (by simp)⟩
        | cons r L ih =>
          intro hh
          obtain ⟨p, hp, e⟩ := hh r List.mem_cons_self
          obtain ⟨qs, e1, e2⟩ := ih fun r hr => hh r (List.mem_cons_of_mem _ hr)
          refine ⟨p :: qs, by rw [List.map_cons, List.map_cons, e1, e], fun q hq => ?_⟩
          rcases List.mem_cons.mp hq with z | z
          · subst z; exact hp
          · exact e2 q z
      obtain ⟨qs, eq, hqs⟩ := keys L' fun p hp => isP p (pm.mem_iff.mp hp)
      have srt : SortedP qs := by
        have pw2 : (L'.map (·.2)).Pairwise fun a b => TS.code 64 a ≤ TS.code 64 b := List.pairwise_map.mpr pw
        rw [eq] at pw2
        exact List.Pairwise.imp_of_mem (fun {a b} ha hb' h => leP_code (hb a (hqs a ha)) (hb b (hqs b hb')) h) ((List.pairwise_map (f := l2) (R := fun a b => TS.code 64 a ≤ TS.code 64 b)).mp pw2)
      have ndq : qs.Nodup := by
        rw [eq] at nd
        exact List.Pairwise.of_map l2 (fun a b hne e => hne (congrArg l2 e)) nd
      have pq : qs.Perm (ddP ps) := by
        refine (List.perm_ext_iff_of_nodup ndq (ddP_nodup ps)).mpr fun x => ?_
        rw [mem_ddP]
        refine ⟨hqs x, fun hx => ?_⟩
        have m1 : l2 x ∈ ks.map (·.2) := by rw [h2]; exact List.mem_map.mpr ⟨x, hx, rfl⟩
        obtain ⟨r, hr, er⟩ := List.mem_map.mp m1
        have m2 := hL2 r hr
        have m3 : r.2 ∈ L'.map (·.2) := (pm.map (·.2)).mem_iff.mpr m2
        rw [eq, er] at m3
        obtain ⟨y, hy, ey⟩ := List.mem_map.mp m3
        rw [← l2_inj ey]; exact hy
      rw [sortP_eq pq srt]
      have dall : DdAll I (L'.map fun q => V.ref q.1) (qs.map dP) := by
        have gen : ∀ (L : List (Addr × List Int)) (qs : List P2), L.map (·.2) = qs.map l2 → (∀ r ∈ L, I r.1 = some (.tup (r.2.map V.int))) → DdAll I (L.map fun q => V.ref q.1) (qs.map dP) := by
          intro L
          induction L with
          | nil =>
            intro qs e _
            cases qs with
            | nil => exact .nil
            | cons => simp at e
          | cons r L ih =>
            intro qs e h1
            cases qs with
            | nil => simp at e
            | cons q qs =>
              rw [List.map_cons, List.map_cons] at e
              injection e with e1 e2
              have hr := h1 r List.mem_cons_self
              rw [e1] at hr
              exact .cons (Dd.of_pair hr) (ih qs e2 fun r hr => h1 r (List.mem_cons_of_mem _ hr))
        exact gen L' qs eq fun r hr => tupL r (pm.mem_iff.mp hr)
      exact Stt.fin hl g e (g1.trans (Gr.new g1.s hp')) (.lst upd_same (dall.mono (same_new _ (none_of_same g1.s hp'))))
end G

set_option Elab.async false
set_option linter.all false
set_option maxRecDepth 100000
set_option maxHeartbeats 4000000
/-! Dat5: dicts with pair keys, own lists read, sizes of sets, ranges, the rules for defs (pure; with the draws' list). -/
namespace G
open PySem L2

/-! ### dicts -/
def hasD (kvs : List (P2 × D)) (k : P2) : Bool := kvs.any fun kv => decide (kv.1 = k)
def lookD (kvs : List (P2 × D)) (k : P2) : Option D := (kvs.find? fun kv => decide (kv.1 = k)).map (·.2)
def putD (kvs : List (P2 × D)) (k : P2) (y : D) : List (P2 × D) := if hasD kvs k then kvs.map fun kv => if kv.1 = k then (kv.1, y) else kv else kvs ++ [(k, y)]
theorem K2_inj {a b : P2} : K2 a = K2 b ↔ a = b := by
  constructor
  · intro h
    injection h with h1 h2
    injection h2 with h2
    injection h1 with h1
    injection h2 with h2
    exact Prod.ext h1 h2
  · intro h; rw [h]
theorem KvOk.has {I : Hp} : ∀ {ks : List (List Key × V)} {kvs : List (P2 × D)} (k : P2), KvOk I ks kvs → (valV ks (K2 k)).isSome = hasD kvs k
  | _, _, _, .nil => rfl
  | _, _, k, .cons (a := a) (b := b) h t => by
    unfold hasD
    rw [List.any_cons]
    by_cases e : b.1 = k
    · rw [valV_pos (by rw [h.1, e]), decide_eq_true e]; rfl
    · rw [valV_neg (by rw [h.1]; exact fun z => e (K2_inj.mp z)), decide_eq_false e, Bool.false_or]
      exact KvOk.has k t
theorem KvOk.look {I : Hp} : ∀ {ks : List (List Key × V)} {kvs : List (P2 × D)} {k : P2} {y : D}, KvOk I ks kvs → lookD kvs k = some y → ∃ v, valV ks (K2 k) = some v ∧ Dd I v y
  | _, _, _, _, .nil, h => by simp [lookD] at h
  | _, _, k, y, .cons (a := a) (b := b) h t, e => by
    unfold lookD at e
    rw [List.find?_cons] at e
    by_cases c : b.1 = k
    · rw [decide_eq_true c] at e
      have e : some b.2 = some y := e
      cases e
      exact ⟨_, valV_pos (by rw [h.1, c]), h.2⟩
    · rw [decide_eq_false c] at e
      obtain ⟨v, hv, d⟩ := KvOk.look (k := k) (y := y) t e
      exact ⟨v, by rw [valV_neg (by rw [h.1]; exact fun z => c (K2_inj.mp z))]; exact hv, d⟩
theorem KvOk.snoc {I : Hp} : ∀ {ks : List (List Key × V)} {kvs : List (P2 × D)} {k : P2} {v : V} {y : D}, KvOk I ks kvs → Dd I v y → KvOk I (ks ++ [(K2 k, v)]) (kvs ++ [(k, y)])
  | _, _, _, _, _, .nil, h => .cons ⟨rfl, h⟩ .nil
  | _, _, _, _, _, .cons a t, h => .cons a (KvOk.snoc t h)
theorem KvOk.repl {I : Hp} : ∀ {ks : List (List Key × V)} {kvs : List (P2 × D)} {k : P2} {v : V} {y : D}, KvOk I ks kvs → Dd I v y →
    KvOk I (ks.map fun kv => if kv.1 = K2 k then (kv.1, v) else kv) (kvs.map fun kv => if kv.1 = k then (kv.1, y) else kv)
  | _, _, _, _, _, .nil, h => .nil
  | _, _, k, _, _, .cons (a := a) (b := b) hh t, h => by
    rw [List.map_cons, List.map_cons]
    refine .cons ?_ (KvOk.repl t h)
    by_cases c : b.1 = k
    · rw [if_pos c, if_pos (by rw [hh.1, c])]
      exact ⟨hh.1, h⟩
    · rw [if_neg c, if_neg (by rw [hh.1]; exact fun z => c (K2_inj.mp z))]
      exact hh
theorem KvOk.put {I : Hp} {ks : List (List Key × V)} {kvs : List (P2 × D)} {k : P2} {v : V} {y : D} (m : KvOk I ks kvs) (h : Dd I v y) : KvOk I (putK ks (K2 k) v) (putD kvs k y) := by
  have e := m.has k
  unfold putK putD
  rw [valV_any, e]
  by_cases c : hasD kvs k = true
  · rw [if_pos c, if_pos c]; exact m.repl h
  · rw [if_neg c, if_neg c]; exact m.snoc h
theorem K2_kV (k : P2) : (K2 k).map kV = [.int k.1, .int k.2] := rfl
section
variable {B : Bs} {Γ Γ' : List En} {tk tv ty ta te : TE} {tA : TA} {k : P2} {x y d : D} {ds : List D} {kvs : List (P2 × D)} {N : List En → Prop} {R : List En → En → Prop} {K : PySem.W.Frag} {i j : Nat}
theorem Stt.pairTop {σ : L2.St} {ts : List Cell} {H : Hp} {v : V} (s : Stt B σ Γ ((some v, .d (dP k)) :: ts) H) : ∃ b, v = .ref b ∧ H b = some (.tup ((K2 k).map kV)) := by
  obtain ⟨hl, I, g, kk, e⟩ := s.one
  obtain ⟨t, rfl, ht⟩ := kk.pair
  exact ⟨t, rfl, g.s _ _ ht⟩
theorem ev_disp (hk : EvE B tk Γ (.d (dP k))) (hv : EvE B tv Γ (.d y)) : EvE B (tDisp1T tk tv) Γ (.m (.t [(k, y)])) := fun σ ts H s Q q => by
  intro p hp
  have s0 : Stt B σ Γ ((some (.ref p), .m (.t [])) :: ts) (upd H p (.dT [])) := s.newM hp (fun I _ _ => ⟨[], rfl, .nil⟩) fun n z => nomatch z
  refine hk σ _ _ s0 _ fun v1 H1 s1 => hv σ _ _ s1 _ fun v2 H2 s2 => ?_
  obtain ⟨b, rfl, hb⟩ := Stt.pairTop s2.pop
  have s3 : Stt B σ Γ ((some (.ref p), .m (.t [])) :: (some v2, .d y) :: ts) H2 := (s2.sub (ts' := (some v2, .d y) :: (some (.ref p), .m (.t [])) :: ts) (.cons_cons _ (List.sublist_cons_self _ _))).perm (.swap _ _ _)
  obtain ⟨p', I, o, e1, sI, hH, ⟨ks, eo, hks⟩, ow⟩ := s3.topM
  injection e1 with e1
  subst e1 eo
  cases hks
  refine ⟨v2, b, K2 k, rfl, hH, hb, q _ _ ?_⟩
  have s4 := s3.wr (u' := .t [(k, y)]) (o' := .dT [(K2 k, v2)]) (fun _ z => z) fun I sI _ ok => by
    obtain ⟨w, hw, kk⟩ := ok _ List.mem_cons_self (fun z => nomatch z)
    have hw := Option.some.inj hw
    subst hw
    exact ⟨_, rfl, .cons ⟨rfl, kk⟩ .nil⟩
  exact s4.sub (.cons_cons _ (List.sublist_cons_self _ _))
/-- k not in d, d our own -/
theorem ev_dnotin (hk : EvE B ty Γ (.d (dP k))) (h : Γ[i]? = some (.m (.t kvs))) : EvE B (tDNotIn ty (tVar i)) Γ (.d (.bool (!hasD kvs k))) := fun σ ts H s Q q => hk σ ts H s _ fun v H1 s1 => by
  obtain ⟨b, rfl, hb⟩ := s1.pairTop
  obtain ⟨p, e1, s2⟩ := s1.out h
  obtain ⟨p', I, o, e2, sI, hH, ⟨ks, eo, hks⟩, ow⟩ := s2.topM
  injection e2 with e2
  subst e2 eo
  refine ⟨_, e1, _, _, rfl, DGet.t hH hb, ?_⟩
  rw [hks.has k]
  exact q _ H1 (s1.pop.pushV fun _ => .bl _)
/-- d[k], d frozen -/
theorem ev_dget (h : Γ[i]? = some (.ft kvs)) (hk : EvE B ty Γ (.d (dP k))) (hy : lookD kvs k = some y) : EvE B (tDGet (tVar i) ty) Γ (.d y) := fun σ ts H s Q q => by
  obtain ⟨v, hv, s1⟩ := s.getF h
  refine ⟨v, hv, hk σ _ H s1 _ fun w H1 s2 => ?_⟩
  obtain ⟨b, rfl, hb⟩ := s2.pairTop
  have s3 := s2.pop
  obtain ⟨hl, I, g, e⟩ := s3
  obtain ⟨v', hv', p, ks, e1, hI, m⟩ := e.ok _ List.mem_cons_self (fun z => nomatch z)
  have hv' : v = v' := Option.some.inj hv'
  subst hv' e1
  obtain ⟨z, hz, kz⟩ := m.look hy
  refine ⟨p, z, rfl, ?_, q z H1 ⟨hl, I, g, e.tail.consD kz⟩⟩
  rw [← hz]
  exact DGet.t (g.s _ _ hI) hb
/-- d[k] = v, d our own -/
theorem ht_dput (h : Γ[i]? = some (.m (.t kvs))) (hv : EvE B tv Γ (.d y)) (hk : EvE B ty Γ (.d (dP k))) (hz : kvs.length < 100000) (q : N (Γ.set i (.m (.t (putD kvs k y))))) : HT B (sDPut (tVar i) ty tv) Γ N R := fun σ ts H Dn s n r => hv σ ts H s _ fun v H1 s1 => by
  obtain ⟨p, e1, s2⟩ := s1.out h
  refine ⟨_, e1, hk σ _ H1 s1 _ fun w H2 s3 => ?_⟩
  obtain ⟨b, rfl, hb⟩ := s3.pairTop
  obtain ⟨p2, e3, s4⟩ := s3.pop.out h
  have e4 : p = p2 := by
    rw [e1] at e3
    injection e3 with e3; injection e3 with e3; injection e3
  subst e4
  obtain ⟨p', I, o, e2, sI, hH, ⟨ks, eo, hks⟩, ow⟩ := s4.topM
  injection e2 with e2
  subst e2 eo
  have hlen : ks.length = kvs.length := Paired.length hks
  refine ⟨p, _, rfl, DPut.t hH hb (sz_lt (by omega)), n _ _ _ q ?_⟩
  have s5 := s4.wr (u' := .t (putD kvs k y)) (o' := .dT (putK ks (K2 k) v)) (fun _ z => z) fun I2 sI2 mo ok => by
    obtain ⟨w, hw, kk⟩ := ok _ List.mem_cons_self (fun z => nomatch z)
    have hw := Option.some.inj hw
    subst hw
    obtain ⟨ks2, e5, m2⟩ := mo _ hH
    injection e5 with e5
    subst e5
    exact ⟨_, rfl, m2.put kk⟩
  exact (s5.sub (.cons_cons _ (List.sublist_cons_self _ _))).back e1
/-! ### own lists read -/
theorem ev_lenM (h : Γ[i]? = some (.m (.l ds))) : EvE B (tCB (fun xs H Q => ∃ p ys, xs = [.ref p] ∧ (SqL K H p ys ∨ SqT K H p ys) ∧ Q (.int (ys.length : Int)) H) (tCons (tVar i) tNil)) Γ (.d (.int ds.length)) := fun σ ts H s Q q => by
  obtain ⟨p, e1, s2⟩ := s.out h
  obtain ⟨p', I, o, e2, sI, hH, ⟨xs, eo, hx⟩, ow⟩ := s2.topM
  injection e2 with e2
  subst e2 eo
  exact ⟨_, e1, p, xs, rfl, .inl (SqL.of hH), by rw [hx.length]; exact q _ H (s.pushV fun _ => .int _)⟩
theorem ev_inM (ha : EvE B ta Γ (.d x)) (h : Γ[i]? = some (.m (.l ds))) (sa : SeqAt.shaped x = true) (sb : SeqAt.shaped (.list ds) = true) : EvE B (tOp (rInD K) ta (tVar i)) Γ (.d (.bool (ds.any fun z => PyData.eqv z x))) := fun σ ts H s Q q => ha σ ts H s _ fun v H1 s1 => by
  obtain ⟨p, e1, s2⟩ := s1.out h
  obtain ⟨p', I, o, e2, sI, hH, ⟨xs, eo, hx⟩, ow⟩ := s2.topM
  injection e2 with e2
  subst e2 eo
  exact ⟨_, e1, x, ds, s1.top.dp, .lst (SqL.of hH) (hx.mono sI).dp, sa, sb, q _ H1 (s1.pop.pushV fun _ => .bl _)⟩
theorem ev_notInM (ha : EvE B ta Γ (.d x)) (h : Γ[i]? = some (.m (.l ds))) (sa : SeqAt.shaped x = true) (sb : SeqAt.shaped (.list ds) = true) : EvE B (tOp (rNotInD K) ta (tVar i)) Γ (.d (.bool (!ds.any fun z => PyData.eqv z x))) := fun σ ts H s Q q => ha σ ts H s _ fun v H1 s1 => by
  obtain ⟨p, e1, s2⟩ := s1.out h
  obtain ⟨p', I, o, e2, sI, hH, ⟨xs, eo, hx⟩, ow⟩ := s2.topM
  injection e2 with e2
  subst e2 eo
  exact ⟨_, e1, x, ds, s1.top.dp, .lst (SqL.of hH) (hx.mono sI).dp, sa, sb, q _ H1 (s1.pop.pushV fun _ => .bl _)⟩
/-- xs[::-1] -/
theorem ev_revL (h : EvE B te Γ (.d (.list ds))) : EvE B (tRevL K te) Γ (.d (.list ds.reverse)) := fun σ ts H s Q q => h σ ts H s _ fun v H1 s1 => by
  obtain ⟨hl, I, g, k, e⟩ := s1.one
  cases k with
  | lst e1 t => exact ⟨_, _, rfl, SqL.of (g.s _ _ e1), fun p hp => q _ _ (Stt.fin hl g e (Gr.new g.s hp) (.lst upd_same (t.reverse.mono (same_new _ (none_of_same g.s hp)))))⟩
theorem ev_lenSet {ns : List Int} (h : EvE B ta Γ (.d (.list (ns.map PyData.int)))) (hz : ns.length < 64) : EvE B (tLenSetM K ta) Γ (.d (.int (lenSet ns))) := fun σ ts H s Q q => h σ ts H s _ fun v H1 s1 => by
  obtain ⟨hl, I, g, k, e⟩ := s1.one
  cases k with
  | lst e1 t =>
    have z := t.ints
    subst z
    exact ⟨_, ns, rfl, SqL.of (g.s _ _ e1), hz, q _ H1 (s1.pop.pushV fun _ => .int _)⟩
theorem rgD_dd {I : Hp} (n : Int) : DdAll I (rgV 0 n) (rgD 0 n.toNat) := by
  have e : rgD 0 n.toNat = ((List.range n.toNat).map fun (i : Nat) => (0 : Int) + i).map PyData.int := by unfold rgD; rw [List.map_map]; rfl
  have e2 : rgV 0 n = ((List.range n.toNat).map fun (i : Nat) => (0 : Int) + i).map V.int := by unfold rgV; rw [List.map_map, Int.sub_zero]; rfl
  rw [e, e2]
  exact DdAll.of_ints _
/-- list(range(n)) -/
theorem ev_listRg {n : Int} (h : EvE B ta Γ (.d (.int n))) (h0 : 0 ≤ n) (h1 : n ≤ 1000) : EvE B (tLstRg (tRg1 ta)) Γ (.d (.list (rgD 0 n.toNat))) := fun σ ts H s Q q => h σ ts H s _ fun v H1 s1 => by
  have k := s1.top
  cases k
  obtain ⟨hl, I, g, k, e⟩ := s1.one
  exact ⟨n, rfl, RgOk.of_le (by omega) (by omega) (by omega) (by omega), fun p hp => q _ _ (Stt.fin hl g e (Gr.new g.s hp) (.lst upd_same (rgD_dd n)))⟩
/-! None -/
def isNoneD : D → Bool
  | .none => true
  | _ => false
theorem Dd.isNone {I : Hp} {v : V} {x : D} (h : Dd I v x) : decide (v = .non) = isNoneD x := by
  cases h with
  | non => rfl
  | bl b => exact decide_eq_false fun z => nomatch z
  | int b => exact decide_eq_false fun z => nomatch z
  | str b => exact decide_eq_false fun z => nomatch z
  | lst _ _ => exact decide_eq_false fun z => nomatch z
  | tup _ _ => exact decide_eq_false fun z => nomatch z
theorem ro_isN {x : D} : RO (fun x y H Q => y = .non ∧ Q (.bl (decide (x = .non))) H) x .none (.bool (isNoneD x)) := ro_fin fun I H v w Q s h1 h2 q => by
  cases h2
  exact ⟨rfl, by rw [h1.isNone]; exact q _ (.bl _)⟩
theorem ro_notN {x : D} : RO (fun x y H Q => y = .non ∧ Q (.bl (!decide (x = .non))) H) x .none (.bool (!isNoneD x)) := ro_fin fun I H v w Q s h1 h2 q => by
  cases h2
  exact ⟨rfl, by rw [h1.isNone]; exact q _ (.bl _)⟩
end

/-! ### the rule for a def over data -/
section
variable {P : Program} {w : World} {K : PySem.W.Frag} {mg : Str → Option Value} {base : Heap} {x : Str} {st : Stmt} {f : Addr} {fd : FuncData} {N ps : List Str} {k : Nat}
theorem fnD {Pre : List D → Prop} {Post : List D → D → Prop} (F : Fun K x x st f fd) (S : FnScope N ps (defScope st)) (hn : ∀ ds, Pre ds → ds.length = ps.length) (hN : ps.length ≤ N.length)
    (body : ∀ (cdv : Value) (A : Around) (outer : List PySem.Env) (s : Shared) (H : Hp) (E : XK), Room k (A.deeper (PyProof.Rows.envOfC x (defScope st) s.heap.objs.size f cdv)) →
      ∃ t, PSs (cxOf CX0 P w K mg base N x (defScope st) f cdv A outer s H E).nox (defBody st) t ∧
        ∀ (B : Bs) ds, B.K = K → Pre ds → HT B t (ds.map En.d ++ List.replicate (N.length - ds.length) En.un) (fun _ => Post ds .none) (fun _ e => ∃ d, e = .d d ∧ Post ds d)) :
    FnOk P w K mg base CX0 (k + 1) f fd ps (spD Pre Post) := by
  refine F.ok S (fun vs H Q E ⟨I, ds, sI, hd, hp, q⟩ => by rw [hd.length]; exact hn ds hp) fun cdv A outer s H vs Q E hr ⟨I, ds, sI, hd, hp, q⟩ => ?_
  obtain ⟨t, ht, hb⟩ := body cdv A outer s H E hr
  refine ⟨t, ht, ?_⟩
  have s0 := stt_start (K := K) N sI hd (by rw [hn ds hp]; exact hN)
  refine hb _ ds rfl hp _ [] H _ s0 (fun Γ' σ' H' hN s' => ?_) fun Γ' e σ' v H' ⟨d, ed, pd⟩ s' => ?_
  · obtain ⟨_, I', g, _⟩ := s'
    exact q .non I' H' .none g hN .non
  · subst ed
    obtain ⟨hl, I', g, k, _⟩ := s'.one
    exact q v I' H' d g pd k
end

/-! ### defs that draw: the first argument is the draws' list -/
abbrev TinAt (H : Hp) (t : Addr) (n : Nat) : Prop := ∃ a b c : Int, H t = some (.lst [.int a, .int b, .int c]) ∧ 0 ≤ c ∧ c ≤ n
def spT (c : Nat) (Pre : List D → Prop) (Post : List D → D → Prop) : Sp := fun vs H Q _ => ∃ I t vs' ds n, vs = .ref t :: vs' ∧ Same I H ∧ I t = none ∧ TinAt H t n ∧ n + c ≤ 2 ^ 40 ∧ DdAll I vs' ds ∧ Pre ds ∧
  ∀ v I' H' d, Gr (fun a => a = t) I H I' H' → I' t = none → TinAt H' t (n + c) → Post ds d → Dd I' v d → Q v H'
theorem stt_startT {K : PySem.W.Frag} {I H : Hp} {t : Addr} {n : Nat} {vs : List V} {ds : List D} (N : List Str) (sI : Same I H) (hI : I t = none) (ht : TinAt H t n) (h : DdAll I vs ds) (hn : ds.length + 1 ≤ N.length) :
    Stt ⟨K, (fun a => a = t), I, H⟩ (start N (.ref t :: vs)) (.m (.tin n) :: (ds.map En.d ++ List.replicate (N.length - ds.length - 1) En.un)) [] H := by
  have hl := h.length
  have e1 : start N (.ref t :: vs) = some (.ref t) :: (vs.map some ++ List.replicate (N.length - ds.length - 1) none) := by
    rw [start_eq, List.map_cons, List.length_cons, hl]
    congr 3
  rw [e1]
  refine ⟨by simp [hl], I, Gr.refl sI, ?_⟩
  show Env _ _ _ ((some (.ref t), .m (.tin n)) :: (vs.map some ++ List.replicate (N.length - ds.length - 1) none).zip (ds.map En.d ++ List.replicate (N.length - ds.length - 1) En.un))
  have noM : ∀ x ∈ (vs.map some ++ List.replicate (N.length - ds.length - 1) none).zip (ds.map En.d ++ List.replicate (N.length - ds.length - 1) En.un), ∀ u, x.2 ≠ .m u := fun x hx u z => by
    have := (List.of_mem_zip (a := x.1) (b := x.2) (show (x.1, x.2) ∈ _ from hx)).2
    rw [z] at this
    rcases List.mem_append.mp this with k | k
    · obtain ⟨_, _, q⟩ := List.mem_map.mp k; cases q
    · cases List.eq_of_mem_replicate k
  obtain ⟨a, b, c, e, c0, c1⟩ := ht
  exact Env.cons ⟨DdAll.start _ h, apart_noM noM⟩ ⟨t, _, rfl, hI, rfl, e, a, b, c, rfl, c0, c1⟩ fun y hy => Apart.symm (Apart.l (noM y hy))
section
variable {P : Program} {w : World} {K : PySem.W.Frag} {mg : Str → Option Value} {base : Heap} {x : Str} {st : Stmt} {f : Addr} {fd : FuncData} {N ps : List Str} {k : Nat}
theorem fnT {c : Nat} {Pre : List D → Prop} {Post : List D → D → Prop} (F : Fun K x x st f fd) (S : FnScope N ps (defScope st)) (hn : ∀ ds, Pre ds → ds.length + 1 = ps.length) (hN : ps.length ≤ N.length)
    (body : ∀ (cdv : Value) (A : Around) (outer : List PySem.Env) (s : Shared) (H : Hp) (E : XK), Room k (A.deeper (PyProof.Rows.envOfC x (defScope st) s.heap.objs.size f cdv)) →
      ∃ t, PSs (cxOf CX0 P w K mg base N x (defScope st) f cdv A outer s H E).nox (defBody st) t ∧
        ∀ (B : Bs) ds n, B.K = K → Pre ds → n + c ≤ 2 ^ 40 → HT B t (.m (.tin n) :: (ds.map En.d ++ List.replicate (N.length - ds.length - 1) En.un)) (fun _ => False)
          (fun Γ' e => ∃ d m, e = .d d ∧ Post ds d ∧ Γ'[0]? = some (.m (.tin m)) ∧ m ≤ n + c)) :
    FnOk P w K mg base CX0 (k + 1) f fd ps (spT c Pre Post) := by
  refine F.ok S (fun vs H Q E ⟨I, t, vs', ds, n, ev, sI, hI, ht, hc, hd, hp, q⟩ => by rw [ev, List.length_cons, hd.length]; exact hn ds hp) fun cdv A outer s H vs Q E hr ⟨I, t, vs', ds, n, ev, sI, hI, ht, hc, hd, hp, q⟩ => ?_
  subst ev
  obtain ⟨tt, htt, hb⟩ := body cdv A outer s H E hr
  refine ⟨tt, htt, ?_⟩
  have s0 := stt_startT (K := K) N sI hI ht hd (by rw [hn ds hp]; exact hN)
  refine hb _ ds n rfl hp hc _ [] H _ s0 (fun Γ' σ' H' hN s' => hN.elim) fun Γ' e σ' v H' ⟨d, m, ed, pd, gm, hm⟩ s' => ?_
  subst ed
  obtain ⟨hl, I', g, k, e⟩ := s'.one
  obtain ⟨o, e1, e2⟩ := zip_get hl gm
  obtain ⟨v', hv, p, o', ev', hI', ow, hH', a, b, cc, eo, c0, c1⟩ := e.ok _ (List.mem_append_right _ (List.mem_of_getElem? e2)) (fun z => nomatch z)
  have ow : p = t := ow
  subst ow eo
  exact q v I' H' d g hI' ⟨a, b, cc, hH', c0, by omega⟩ pd k
end
section
variable {B : Bs} {Γ Γ' : List En} {tA : TA} {ds : List D} {i n c : Nat} {Pre : List D → Prop} {Post : List D → D → Prop} {E : XK}
/-- behind a call that drew -/
theorem Stt.drawn {σ : L2.St} {ts : List Cell} {I H I' H' : Hp} {t : Addr} {m : Nat} (hl : σ.length = Γ.length) (g0 : Gr B.T B.I0 B.H0 I H) (e : Env B I H ((some (.ref t), .m (.tin n)) :: (ts ++ σ.zip Γ))) (g : Gr (fun a => a = t) I H I' H') (hI' : I' t = none)
    (ht : TinAt H' t m) : ∃ g2 : Gr B.T B.I0 B.H0 I' H', Env B I' H' ((some (.ref t), .m (.tin m)) :: (ts ++ σ.zip Γ)) := by
  obtain ⟨v', hv, p, o', ev', hI, ow, hH', _⟩ := e.ok _ List.mem_cons_self (fun z => nomatch z)
  have hv : V.ref t = v' := Option.some.inj hv
  subst hv
  injection ev' with ev'
  subst ev'
  have hd := List.pairwise_cons.mp e.dj
  have et := e.tail
  have gT : Gr B.T I H I' H' := ⟨g.i, fun b u eb nb => g.h b u eb fun z => nb (by rw [z]; exact ow), g.s, g.n, g.d⟩
  refine ⟨g0.trans gT, ?_⟩
  obtain ⟨a, b, cc, eo, c0, c1⟩ := ht
  refine Env.cons ⟨fun y hy hn => ?_, et.dj⟩ ⟨t, _, rfl, hI', ow, eo, a, b, cc, rfl, c0, c1⟩ fun y hy a b c d1 d2 d3 d4 => hd.1 y hy _ b c rfl d2 d3 d4
  obtain ⟨w, hw, k⟩ := et.ok y hy hn
  refine ⟨w, hw, ?_⟩
  have ap := hd.1 y hy
  obtain ⟨yc, ye⟩ := y
  dsimp only at k hw ap ⊢
  cases ye with
  | un => trivial
  | d x => exact Dd.mono g.i k
  | ft x => obtain ⟨q, ks, a, b, c⟩ := k; exact ⟨q, ks, a, g.i _ _ b, c.mono g.i⟩
  | raw u => exact k
  | m u2 =>
    obtain ⟨q, o2, a, b, c, d, f⟩ := k
    refine ⟨q, o2, a, g.n q o2 d f.nt b, c, g.h q o2 d fun z => ?_, f.mono g.i⟩
    subst z
    rw [hw, a] at ap
    exact ap _ _ q rfl rfl rfl rfl
theorem ev_callT (ht : Γ[i]? = some (.m (.tin n))) (h : EvA B tA Γ (ds.map .d)) (hp : Pre ds) (hc : n + c ≤ 2 ^ 40) :
    EvX B (tCall (spT c Pre Post) [] E (tCons (tVar i) tA)) Γ (fun Γ' e => Γ' = Γ.set i (.m (.tin (n + c))) ∧ ∃ d, e = .d d ∧ Post ds d) := fun σ ts H s Q q => by
  obtain ⟨p, e1, _⟩ := s.out ht
  refine ⟨_, e1, h σ ts H s _ fun vs H1 hl s1 => ?_⟩
  rw [List.length_map] at hl
  obtain ⟨p2, e3, s2⟩ := s1.out ht
  have e4 : p = p2 := by
    rw [e1] at e3
    injection e3 with e3; injection e3 with e3; injection e3
  subst e4
  have s3 := s2.perm List.perm_middle.symm
  obtain ⟨h0, I, g, k, e⟩ := Stt.args (ts := (some (.ref p), .m (.tin n)) :: ts) hl s3
  obtain ⟨v', hv, p', o', ev', hI, ow, hH', a, b, cc, eo, c0, c1⟩ := e.ok _ List.mem_cons_self (fun z => nomatch z)
  have hv : V.ref p = v' := Option.some.inj hv
  subst hv
  injection ev' with ev'
  subst ev' eo
  show spT c Pre Post (.ref p :: (vs ++ [])) H1 Q E
  rw [List.append_nil]
  refine ⟨I, p, vs, ds, n, rfl, g.s, hI, ⟨a, b, cc, hH', c0, c1⟩, hc, k, hp, fun v I' H' d g' hI' ht' pd kd => q _ (.d d) v H' ⟨rfl, d, rfl, pd⟩ ?_⟩
  obtain ⟨g2, e5⟩ := Stt.drawn h0 g e g' hI' ht'
  have s4 : Stt B σ (Γ.set i .un) ((some (.ref p), .m (.tin (n + c))) :: (some v, .d d) :: ts) H' := by
    refine ⟨h0, I', g2, Env.perm ?_ (e5.consD kd)⟩
    exact .swap _ _ _
  exact s4.back e1
/-- .. the argument a list of our own of ints, the answer an int -/
theorem ev_callT1 {j : Nat} (ht : Γ[i]? = some (.m (.tin n))) (hj : Γ[j]? = some (.m (.l ds))) (hij : i ≠ j) (hp : Pre [.list ds]) (hc : n + c ≤ 2 ^ 40) (hq : ∀ d, Post [.list ds] d → ∃ z : Int, d = .int z) :
    EvX B (tCall (spT c Pre Post) [] E (tCons (tVar i) (tCons (tVar j) tNil))) Γ (fun Γ' e => Γ' = Γ.set i (.m (.tin (n + c))) ∧ ∃ d, e = .d d ∧ Post [.list ds] d) := fun σ ts H s Q q => by
  obtain ⟨p, e1, s1⟩ := s.out ht
  have hj' : (Γ.set i .un)[j]? = some (.m (.l ds)) := by rw [List.getElem?_set_ne hij]; exact hj
  obtain ⟨pj, e2, s2⟩ := s1.out hj'
  refine ⟨_, e1, _, e2, ?_⟩
  obtain ⟨h0, I, g, e⟩ := s2
  obtain ⟨vj, hvj, pj', oj, evj, hIj, owj, hHj, xs, eoj, hx⟩ := e.ok _ List.mem_cons_self (fun z => nomatch z)
  have hvj : V.ref pj = vj := Option.some.inj hvj
  subst hvj
  injection evj with evj
  subst evj eoj
  have e' := e.tail
  obtain ⟨v', hv, p', o', ev', hI, ow, hH', a, b, cc, eo, c0, c1⟩ := e'.ok _ List.mem_cons_self (fun z => nomatch z)
  have hv : V.ref p = v' := Option.some.inj hv
  subst hv
  injection ev' with ev'
  subst ev' eo
  have ne : p ≠ pj := by
    intro z
    subst z
    exact (List.pairwise_cons.mp e.dj).1 _ List.mem_cons_self _ _ p rfl rfl rfl rfl
  have sI : Same I (upd I pj (.lst xs)) := same_new _ hIj
  have sH : Same (upd I pj (.lst xs)) H := fun b u eb => by
    by_cases hb : b = pj
    · subst hb; rw [upd_same] at eb; rw [hHj]; exact eb
    · rw [upd_ne hb] at eb; exact g.s b u eb
  show spT c Pre Post [.ref p, .ref pj] H Q E
  refine ⟨upd I pj (.lst xs), p, [.ref pj], [.list ds], n, rfl, sH, by rw [upd_ne ne]; exact hI, ⟨a, b, cc, hH', c0, c1⟩, hc, .cons (.lst upd_same (hx.mono sI)) .nil, hp, fun v I' H2 d g' hI' ht' pd kd => q _ (.d d) v H2 ⟨rfl, d, rfl, pd⟩ ?_⟩
  obtain ⟨z, rfl⟩ := hq d pd
  have g3 : Gr (fun a => a = p) I H I H2 := ⟨Same.refl _, g'.h, fun b u eb => by
    have hb : b ≠ p := ne_of_none eb hI
    exact g'.h b u (g.s b u eb) hb, fun _ _ _ _ k => k, g'.d⟩
  have ep := e.perm (.swap _ _ _)
  obtain ⟨g2, e5⟩ := Stt.drawn (ts := (some (.ref pj), .m (.l ds)) :: ts) h0 g ep g3 hI ht'
  have kd0 : Dd I v (.int z) := by cases kd; exact .int z
  have s4 : Stt B σ ((Γ.set i .un).set j .un) ((some (.ref pj), .m (.l ds)) :: (some (.ref p), .m (.tin (n + c))) :: (some v, .d (.int z)) :: ts) H2 := by
    refine ⟨h0, I, g2, ?_⟩
    have e6 := e5.consD kd0
    refine e6.perm ?_
    exact (List.Perm.swap _ _ _).trans ((List.Perm.cons _ (.swap _ _ _)).trans (.swap _ _ _))
  have s5 := s4.back e2
  rw [set_self hj'] at s5
  exact s5.back e1
end
end G

set_option Elab.async false
set_option linter.all false
set_option maxRecDepth 100000
set_option maxHeartbeats 4000000
/-! Dat6: promises by parameters, argument lists of data, facts of isinstance. -/
namespace G
open PySem L2
def EvD (B : Bs) (ta : TA) (Γ : List En) (ds : List D) : Prop := EvA B ta Γ (ds.map En.d)
section
variable {B : Bs} {Γ : List En} {te : TE} {tr tA : TA} {x d : D} {ds : List D} {K : PySem.W.Frag}
theorem ed_nil : EvD B tNil Γ [] := ea_nil
theorem ed_cons (h : EvE B te Γ (.d x)) (hr : EvD B tr Γ ds) : EvD B (tCons te tr) Γ (x :: ds) := ea_cons h hr
theorem ev_tupD (h : EvD B tA Γ ds) (hn : ds.length ≤ 100000) : EvE B (tTup tA) Γ (.d (.tuple ds)) := ev_tup h hn
theorem ev_lstD (h : EvD B tA Γ ds) (hn : ds.length ≤ 100000) : EvE B (tLst tA) Γ (.d (.list ds)) := ev_lst h hn
theorem ev_cbD {r : List V → Hp → VK → Prop} (h : EvD B tA Γ ds) (hr : RC r ds d) : EvE B (tCB r tA) Γ (.d d) := ev_cb h hr
/-- a def, its parameters x: α, their data, what is asked of them, what comes of them -/
def spF {α : Type} (shape : α → List D) (pre : α → Prop) (post : α → D → Prop) : Sp := fun vs H Q _ => ∃ I x, Same I H ∧ DdAll I vs (shape x) ∧ pre x ∧ ∀ v I' H' d, Gr T0 I H I' H' → post x d → Dd I' v d → Q v H'
abbrev spR {α : Type} (shape : α → List D) (pre : α → Prop) (res : α → D) : Sp := spF shape pre fun x d => d = res x
theorem ev_callF {α : Type} {shape : α → List D} {pre : α → Prop} {post : α → D → Prop} {E : XK} (h : EvD B tA Γ ds) (x : α) (e : ds = shape x) (hp : pre x) (hq : ∀ d', post x d' → d' = d) : EvE B (tCall (spF shape pre post) [] E tA) Γ (.d d) := fun σ ts H s Q q =>
  h σ ts H s _ fun vs H1 hl s1 => by
    rw [List.length_map] at hl
    obtain ⟨h0, I, g, k, e'⟩ := s1.args hl
    show spF shape pre post (vs ++ []) H1 Q E
    rw [List.append_nil]
    refine ⟨I, x, g.s, e ▸ k, hp, fun v I' H' d' g' pd k' => q v H' ?_⟩
    rw [hq d' pd] at k'
    exact Stt.fin h0 g e' g' k'
theorem ev_callR {α : Type} {shape : α → List D} {pre : α → Prop} {res : α → D} {E : XK} (h : EvD B tA Γ ds) (x : α) (e : ds = shape x) (hp : pre x) : EvE B (tCall (spR shape pre res) [] E tA) Γ (.d (res x)) := ev_callF h x e hp fun _ z => z
/-- an answer that is not one alone -/
theorem ev_callP {α : Type} {shape : α → List D} {pre : α → Prop} {post : α → D → Prop} {E : XK} (h : EvD B tA Γ ds) (x : α) (e : ds = shape x) (hp : pre x) : EvX B (tCall (spF shape pre post) [] E tA) Γ (fun Γ' e => Γ' = Γ ∧ ∃ d, e = .d d ∧ post x d) := fun σ ts H s Q q =>
  h σ ts H s _ fun vs H1 hl s1 => by
    rw [List.length_map] at hl
    obtain ⟨h0, I, g, k, e'⟩ := s1.args hl
    show spF shape pre post (vs ++ []) H1 Q E
    rw [List.append_nil]
    exact ⟨I, x, g.s, e ▸ k, hp, fun v I' H' d' g' pd k' => q _ _ v H' ⟨rfl, d', rfl, pd⟩ (Stt.fin h0 g e' g' k')⟩
end
section
variable {P : Program} {w : World} {K : PySem.W.Frag} {mg : Str → Option Value} {base : Heap} {x : Str} {st : Stmt} {f : Addr} {fd : FuncData} {N ps : List Str} {k : Nat}
theorem fnF {α : Type} {shape : α → List D} {pre : α → Prop} {post : α → D → Prop} (F : Fun K x x st f fd) (S : FnScope N ps (defScope st)) (hn : ∀ x, (shape x).length = ps.length) (hN : ps.length ≤ N.length)
    (body : ∀ (cdv : Value) (A : Around) (outer : List PySem.Env) (s : Shared) (H : Hp) (E : XK), Room k (A.deeper (PyProof.Rows.envOfC x (defScope st) s.heap.objs.size f cdv)) →
      ∃ t, PSs (cxOf CX0 P w K mg base N x (defScope st) f cdv A outer s H E).nox (defBody st) t ∧
        ∀ (B : Bs) x, pre x → HT B t ((shape x).map En.d ++ List.replicate (N.length - (shape x).length) En.un) (fun _ => post x .none) (fun _ e => ∃ d, e = .d d ∧ post x d)) :
    FnOk P w K mg base CX0 (k + 1) f fd ps (spF shape pre post) := by
  refine F.ok S (fun vs H Q E ⟨I, x, sI, hd, hp, q⟩ => by rw [hd.length]; exact hn x) fun cdv A outer s H vs Q E hr ⟨I, x, sI, hd, hp, q⟩ => ?_
  obtain ⟨t, ht, hb⟩ := body cdv A outer s H E hr
  refine ⟨t, ht, ?_⟩
  have s0 := stt_start (K := K) N sI hd (by rw [hn x]; exact hN)
  refine hb _ x hp _ [] H _ s0 (fun Γ' σ' H' hN s' => ?_) fun Γ' e σ' v H' ⟨d, ed, pd⟩ s' => ?_
  · obtain ⟨_, I', g, _⟩ := s'
    exact q .non I' H' .none g hN .non
  · subst ed
    obtain ⟨hl, I', g, k, _⟩ := s'.one
    exact q v I' H' d g pd k
/-- one answer, always by return -/
theorem fnR {α : Type} {shape : α → List D} {pre : α → Prop} {res : α → D} (F : Fun K x x st f fd) (S : FnScope N ps (defScope st)) (hn : ∀ x, (shape x).length = ps.length) (hN : ps.length ≤ N.length)
    (body : ∀ (cdv : Value) (A : Around) (outer : List PySem.Env) (s : Shared) (H : Hp) (E : XK), Room k (A.deeper (PyProof.Rows.envOfC x (defScope st) s.heap.objs.size f cdv)) →
      ∃ t, PSs (cxOf CX0 P w K mg base N x (defScope st) f cdv A outer s H E).nox (defBody st) t ∧
        ∀ (B : Bs) x, pre x → HT B t ((shape x).map En.d ++ List.replicate (N.length - (shape x).length) En.un) (fun _ => False) (fun _ e => e = .d (res x))) :
    FnOk P w K mg base CX0 (k + 1) f fd ps (spR shape pre res) := fnF F S hn hN fun cdv A outer s H E hr => by
  obtain ⟨t, ht, hb⟩ := body cdv A outer s H E hr
  exact ⟨t, ht, fun B x hp σ ts H Dn s n r => hb B x hp σ ts H Dn s (fun _ _ _ z _ => z.elim) fun Γ' e σ' v H' he s' => r Γ' e σ' v H' ⟨_, he, rfl⟩ s'⟩
end
/-! isinstance's answers -/
theorem k_int_int : kitB "int" "int" = some true := by decide +kernel
theorem k_int_bool : kitB "int" "bool" = some false := by decide +kernel
theorem k_int_str : kitB "int" "str" = some false := by decide +kernel
theorem k_int_list : kitB "int" "list" = some false := by decide +kernel
theorem k_int_tuple : kitB "int" "tuple" = some false := by decide +kernel
theorem k_bool_int : kitB "bool" "int" = some true := by decide +kernel
theorem k_bool_bool : kitB "bool" "bool" = some true := by decide +kernel
theorem k_bool_str : kitB "bool" "str" = some false := by decide +kernel
theorem k_bool_list : kitB "bool" "list" = some false := by decide +kernel
theorem k_bool_tuple : kitB "bool" "tuple" = some false := by decide +kernel
theorem k_str_int : kitB "str" "int" = some false := by decide +kernel
theorem k_str_bool : kitB "str" "bool" = some false := by decide +kernel
theorem k_str_str : kitB "str" "str" = some true := by decide +kernel
theorem k_str_list : kitB "str" "list" = some false := by decide +kernel
theorem k_str_tuple : kitB "str" "tuple" = some false := by decide +kernel
theorem k_list_int : kitB "list" "int" = some false := by decide +kernel
theorem k_list_bool : kitB "list" "bool" = some false := by decide +kernel
theorem k_list_str : kitB "list" "str" = some false := by decide +kernel
theorem k_list_list : kitB "list" "list" = some true := by decide +kernel
theorem k_list_tuple : kitB "list" "tuple" = some false := by decide +kernel
theorem k_tuple_int : kitB "tuple" "int" = some false := by decide +kernel
theorem k_tuple_bool : kitB "tuple" "bool" = some false := by decide +kernel
theorem k_tuple_str : kitB "tuple" "str" = some false := by decide +kernel
theorem k_tuple_list : kitB "tuple" "list" = some false := by decide +kernel
theorem k_tuple_tuple : kitB "tuple" "tuple" = some true := by decide +kernel
theorem ht_ret' {B : Bs} {Γ : List En} {te : TE} {e e' : En} {N : List En → Prop} {R : List En → En → Prop} (h : EvE B te Γ e') (q : e' = e) (k : R Γ e) : HT B (tRet te) Γ N R := ht_ret (q ▸ h) k
theorem ht_set' {B : Bs} {Γ : List En} {te : TE} {e e' : En} {i : Nat} {N : List En → Prop} {R : List En → En → Prop} (h : EvE B te Γ e') (q : e' = e) (k : N (Γ.set i e)) : HT B (tAsg te (gName i)) Γ N R := ht_set (q ▸ h) k
theorem ev_andV' {B : Bs} {Γ : List En} {ta tb : TE} {a b c : Bool} (h1 : EvE B ta Γ (.d (.bool a))) (h2 : a = true → EvE B tb Γ (.d (.bool b))) (q : (a && b) = c) : EvE B (tAndV ta tb) Γ (.d (.bool c)) := q ▸ ev_andV h1 h2
theorem ev_chain {B : Bs} {Γ : List En} {ta tb tc : TE} {r r' : R2} {a b c : D} {k1 k2 : Bool} (h1 : EvE B ta Γ (.d a)) (h2 : EvE B tb Γ (.d b)) (h3 : EvE B tc Γ (.d c)) (r1 : RO r a b (.bool k1)) (r2 : RO r' b c (.bool k2)) :
    EvE B (tChain r r' ta tb tc) Γ (.d (.bool (k1 && k2))) := fun σ ts H s Q q => h1 σ ts H s _ fun v H1 s1 => h2 σ _ H1 s1 _ fun w H2 s2 => by
  obtain ⟨hl, I, g, ka, kb, e⟩ := s2.two
  refine r1 I H2 v w _ g.s ka kb fun z I3 H3 g3 kz => ?_
  cases kz
  refine ⟨_, rfl, ?_⟩
  have e3 := e.grow g3
  have g03 := g.trans g3.weak
  cases k1 with
  | false => exact q _ H3 ⟨hl, I3, g03, e3.consD (.bl _)⟩
  | true =>
    have s3 : Stt B σ Γ ((some w, .d b) :: ts) H3 := ⟨hl, I3, g03, e3.consD (kb.mono g3.i)⟩
    rw [if_pos rfl]
    refine h3 σ _ H3 s3 _ fun y H4 s4 => ?_
    obtain ⟨hl4, I4, g4, kb4, kc4, e4⟩ := s4.two
    exact r2 I4 H4 w y Q g4.s kb4 kc4 fun z5 I5 H5 g5 k5 => q z5 H5 (Stt.fin hl4 g4 e4 g5 k5)
/-! data of a small depth -/
def shN (n : Nat) (d : D) : Prop := d.canLay0 = true ∧ d.depth ≤ n
theorem shN.sh {n : Nat} {d : D} (h : shN n d) (hn : n ≤ 64) : SeqAt.shaped d = true := by
  show (d.canLay0 && decide (d.depth ≤ 64)) = true
  rw [h.1, decide_eq_true (Nat.le_trans h.2 hn)]; rfl
theorem shN.mono {m n : Nat} {d : D} (h : shN m d) (hn : m ≤ n) : shN n d := ⟨h.1, Nat.le_trans h.2 hn⟩
theorem sh_int {n : Nat} (i : Int) : shN n (.int i) := ⟨by simp [PyData.canLay0], by simp [PyData.depth]⟩
theorem sh_bool {n : Nat} (i : Bool) : shN n (.bool i) := ⟨by simp [PyData.canLay0], by simp [PyData.depth]⟩
theorem sh_none {n : Nat} : shN n .none := ⟨by simp [PyData.canLay0], by simp [PyData.depth]⟩
theorem shAll {n : Nat} : ∀ {ds : List D}, (∀ d ∈ ds, shN n d) → PyData.canLayAll0 ds = true ∧ PyData.depthAll ds ≤ n
  | [], _ => ⟨by simp [PyData.canLayAll0], by simp [PyData.depthAll]⟩
  | d :: ds, h => by
    obtain ⟨a, b⟩ := shAll (ds := ds) fun x hx => h x (List.mem_cons_of_mem _ hx)
    obtain ⟨c, e⟩ := h d List.mem_cons_self
    refine ⟨by simp [PyData.canLayAll0, a, c], ?_⟩
    simp only [PyData.depthAll]
    exact Nat.max_le.mpr ⟨e, b⟩
theorem sh_list {n : Nat} {ds : List D} (h : ∀ d ∈ ds, shN n d) : shN (n + 1) (.list ds) := by
  obtain ⟨a, b⟩ := shAll h
  exact ⟨by simp only [PyData.canLay0]; exact a, by simp only [PyData.depth]; omega⟩
theorem sh_tuple {n : Nat} {ds : List D} (h : ∀ d ∈ ds, shN n d) : shN (n + 1) (.tuple ds) := by
  obtain ⟨a, b⟩ := shAll h
  exact ⟨by simp only [PyData.canLay0]; exact a, by simp only [PyData.depth]; omega⟩
theorem sh_pair {n : Nat} (p : P2) : shN (n + 1) (dP p) := sh_tuple fun d hd => by
  rcases List.mem_cons.mp hd with z | z
  · subst z; exact sh_int _
  · rw [List.mem_singleton.mp z]; exact sh_int _
theorem sh_pairs {n : Nat} (ps : List P2) : shN (n + 2) (.tuple (ps.map dP)) := sh_tuple fun d hd => by
  obtain ⟨p, _, rfl⟩ := List.mem_map.mp hd
  exact sh_pair p
theorem sh_pairsL {n : Nat} (ps : List P2) : shN (n + 2) (.list (ps.map dP)) := sh_list fun d hd => by
  obtain ⟨p, _, rfl⟩ := List.mem_map.mp hd
  exact sh_pair p
theorem shaped_int (i : Int) : SeqAt.shaped (.int i) = true := (sh_int (n := 1) i).sh (by decide)
theorem shaped_bool (i : Bool) : SeqAt.shaped (.bool i) = true := (sh_bool (n := 1) i).sh (by decide)
theorem shaped_pair (p : P2) : SeqAt.shaped (dP p) = true := (sh_pair (n := 1) p).sh (by decide)
theorem shaped_pairs (ps : List P2) : SeqAt.shaped (.tuple (ps.map dP)) = true := (sh_pairs (n := 1) ps).sh (by decide)
theorem shaped_pairsL (ps : List P2) : SeqAt.shaped (.list (ps.map dP)) = true := (sh_pairsL (n := 1) ps).sh (by decide)
theorem eqv_int (i j : Int) : PyData.eqv (.int i) (.int j) = decide (i = j) := by simp [PyData.eqv, Bool.beq_eq_decide_eq]
theorem eqv_bool (i j : Bool) : PyData.eqv (.bool i) (.bool j) = (i == j) := by simp [PyData.eqv]
theorem eqv_pair (p q : P2) : PyData.eqv (dP p) (dP q) = decide (p = q) := by
  obtain ⟨a, b⟩ := p
  obtain ⟨c, d⟩ := q
  simp only [PyData.eqv, PyData.eqvAll, Bool.and_true, Prod.mk.injEq]
  rw [Bool.beq_eq_decide_eq, Bool.beq_eq_decide_eq]
  by_cases h1 : a = c
  · by_cases h2 : b = d
    · simp [h1, h2]
    · simp [h1, h2]
  · simp [h1]
theorem any_pair (p : P2) : ∀ ps : List P2, ((ps.map dP).any fun z => PyData.eqv z (dP p)) = decide (p ∈ ps)
  | [] => by simp
  | q :: ps => by
    rw [List.map_cons, List.any_cons, eqv_pair, any_pair p ps]
    by_cases h : q = p
    · subst h; simp
    · by_cases h2 : p ∈ ps
      · simp [h, h2]
      · have h' : ¬ p = q := fun z => h z.symm
        simp [h, h2, h']
theorem eqvAll_pairs : ∀ ps qs : List P2, PyData.eqvAll (ps.map dP) (qs.map dP) = decide (ps = qs)
  | [], [] => by simp [PyData.eqvAll]
  | [], _ :: _ => by simp [PyData.eqvAll]
  | _ :: _, [] => by simp [PyData.eqvAll]
  | p :: ps, q :: qs => by
    rw [List.map_cons, List.map_cons]
    unfold PyData.eqvAll
    rw [eqv_pair, eqvAll_pairs ps qs]
    by_cases h1 : p = q
    · by_cases h2 : ps = qs
      · simp [h1, h2]
      · simp [h1, h2]
    · simp [h1]
theorem eqv_pairs (ps qs : List P2) : PyData.eqv (.tuple (ps.map dP)) (.tuple (qs.map dP)) = decide (ps = qs) := by
  unfold PyData.eqv; exact eqvAll_pairs ps qs
theorem eqv_pairsL (ps qs : List P2) : PyData.eqv (.list (ps.map dP)) (.list (qs.map dP)) = decide (ps = qs) := by
  unfold PyData.eqv; exact eqvAll_pairs ps qs
theorem eqvAll_ints : ∀ ps qs : List Int, PyData.eqvAll (ps.map PyData.int) (qs.map PyData.int) = decide (ps = qs)
  | [], [] => by simp [PyData.eqvAll]
  | [], _ :: _ => by simp [PyData.eqvAll]
  | _ :: _, [] => by simp [PyData.eqvAll]
  | p :: ps, q :: qs => by
    rw [List.map_cons, List.map_cons]
    unfold PyData.eqvAll
    rw [eqv_int, eqvAll_ints ps qs]
    by_cases h1 : p = q
    · by_cases h2 : ps = qs
      · simp [h1, h2]
      · simp [h1, h2]
    · simp [h1]
theorem eqv_intsL (ps qs : List Int) : PyData.eqv (.list (ps.map PyData.int)) (.list (qs.map PyData.int)) = decide (ps = qs) := by
  unfold PyData.eqv; exact eqvAll_ints ps qs
theorem sh_intsL {n : Nat} (ps : List Int) : shN (n + 1) (.list (ps.map PyData.int)) := sh_list fun d hd => by
  obtain ⟨p, _, rfl⟩ := List.mem_map.mp hd
  exact sh_int p
theorem shaped_intsL (ps : List Int) : SeqAt.shaped (.list (ps.map PyData.int)) = true := (sh_intsL (n := 1) ps).sh (by decide)
end G

set_option Elab.async false
set_option linter.all false
set_option maxRecDepth 100000
set_option maxHeartbeats 4000000
/-! F0: the text by places, what the top has of it. -/
namespace G
open PySem L2
def top (i : Nat) : Stmt := PySem.Challenge.pw_eachhandtied_k05_whole_ways_parts_change.main.body.getD i (.Pass ⟨0, 0, 0, 0⟩)
/-- the built-in names are the built-ins' -/
structure Bi (mg : Str → Option Value) : Prop where
  isinstance : mg "isinstance" = none
  int : mg "int" = none
  bool : mg "bool" = none
  str : mg "str" = none
  list : mg "list" = none
  tuple : mg "tuple" = none
  set : mg "set" = none
  len : mg "len" = none
  all : mg "all" = none
  abs : mg "abs" = none
  min : mg "min" = none
  max : mg "max" = none
  range : mg "range" = none
  zip : mg "zip" = none
  enumerate : mg "enumerate" = none
  sorted : mg "sorted" = none
  ValueError : mg "ValueError" = none
/-- a def of the text stands -/
def Dfx (K : PySem.W.Frag) (mg : Str → Option Value) (x : Str) (st : Stmt) (ps : List Str) : Prop := ∃ f fd, Fun K x x st f fd ∧ mg x = some (.ref f) ∧ Binds K fd ps []
/-- .. and keeps a promise -/
def Cal (P : Program) (w : World) (K : PySem.W.Frag) (mg : Str → Option Value) (base : Heap) (CX : CXT) (k : Nat) (x : Str) (st : Stmt) (ps : List Str) (sp : Sp) : Prop :=
  ∃ f fd, Fun K x x st f fd ∧ mg x = some (.ref f) ∧ Binds K fd ps [] ∧ FnOk P w K mg base CX k f fd ps sp
section
variable {P : Program} {w : World} {K : PySem.W.Frag} {mg : Str → Option Value} {base : Heap} {CX : CXT} {k : Nat} {x : Str} {st : Stmt} {ps : List Str} {sp : Sp}
theorem Dfx.cal (d : Dfx K mg x st ps) (h : ∀ f fd, Fun K x x st f fd → FnOk P w K mg base CX k f fd ps sp) : Cal P w K mg base CX k x st ps sp := by
  obtain ⟨f, fd, F, m, b⟩ := d
  exact ⟨f, fd, F, m, b, h f fd F⟩
theorem Cal.mono {j : Nat} (c : Cal P w K mg base CX k x st ps sp) (h : k ≤ j) : Cal P w K mg base CX j x st ps sp := by
  obtain ⟨f, fd, F, m, b, ok⟩ := c
  exact ⟨f, fd, F, m, b, ok.mono h⟩
theorem hu65_of {A : Around} {k : Nat} (hr : Room k A) : A.units + 65 < cLine := by have := hr.un; omega
end
end G

set_option Elab.async false
set_option linter.all false
set_option maxRecDepth 100000
/-! Kx: rules with K named, for use under binders. -/
namespace L2
open PySem
section
variable {X : Cx} (K : PySem.W.Frag) (h : X.K = K)
include h
theorem k_ixT : IxR X (rIxT K) := by subst h; exact ix_tup
theorem k_ixL : IxR X (rIxL K) := by subst h; exact ix_list
theorem k_eqD (hu : X.A.units + 64 < cLine) : OpR X (compareOp .Eq) (rEqD K) := by subst h; exact op_eqD hu
theorem k_neD (hu : X.A.units + 64 < cLine) : OpR X (compareOp .NotEq) (rNeD K) := by subst h; exact op_neD hu
theorem k_ltT (hu : X.A.units < cLine) : OpR X (compareOp .Lt) (rLtT K) := by subst h; exact op_ltT hu
theorem k_inD (hu : X.A.units + 65 < cLine) : OpR X (compareOp .In) (rInD K) := by subst h; exact op_inD hu
theorem k_notInD (hu : X.A.units + 65 < cLine) : OpR X (compareOp .NotIn) (rNotInD K) := by subst h; exact op_notInD hu
theorem k_inDT (hu : X.A.units + 65 < cLine) : OpR X (compareOp .In) (G.rInDT K) := by subst h; exact op_inDT hu
theorem k_notInDT (hu : X.A.units + 65 < cLine) : OpR X (compareOp .NotIn) (G.rNotInDT K) := by subst h; exact op_notInDT hu
theorem k_catA : OpR X (binaryOp .Add) (rCatA K) := by subst h; exact op_catA
theorem k_isi : CallR X (.builtin "isinstance") (rIsi K) := by subst h; exact call_isi
theorem k_isiT : CallR X (.builtin "isinstance") (rIsiT K) := by subst h; exact call_isiT
theorem k_len : CallR X (.builtin "len") (fun xs H Q => ∃ p ys, xs = [.ref p] ∧ (SqL K H p ys ∨ SqT K H p ys) ∧ Q (.int (ys.length : Int)) H) := by subst h; exact call_len_seq
theorem k_all (hc : X.calm = true) : CallR X (.builtin "all") (rAll K) := by subst h; exact cr_all hc
theorem k_tuple : CallR X (.type "tuple") (fun xs H Q => ∃ p ys, xs = [.ref p] ∧ ((SqL K H p ys ∧ ∀ l, H l = none → Q (.ref l) (upd H l (.tup ys))) ∨ (SqT K H p ys ∧ Q (.ref p) H))) := by subst h; exact call_tuple_of
theorem k_list : CallR X (.type "list") (fun xs H Q => ∃ p ys, xs = [.ref p] ∧ (SqL K H p ys ∨ SqT K H p ys) ∧ ∀ l, H l = none → Q (.ref l) (upd H l (.lst ys))) := by subst h; exact call_list_of
theorem k_slL : SlR X (rSlL K) := by subst h; exact sl_list
theorem k_iL {tg l : Expr} {tl : TE} (hl : PE X l tl) : PI X tg l (iList K tl) := by subst h; exact pi_list hl
theorem k_iT {tg l : Expr} {tl : TE} (hl : PE X l tl) : PI X tg l (iTup K tl) := by subst h; exact pi_tup hl
theorem k_tup {es : List Expr} {k : Nat} {pos : Pos} {t : TGs} {n : Nat} (hc : X.calm = true) (hh : PGs X es t)
    (hn : (assignEach es X.env).length = n := by rfl) (hst : (assignEach es X.env).findIdx? (·.1) = none := by rfl) : PG X (.Tuple es k pos) (gTup K n t) := by subst h; exact pg_tup hc hh hn hst
end
end L2

set_option Elab.async false
set_option linter.all false
set_option maxRecDepth 100000
set_option maxHeartbeats 4000000
namespace G
open PySem L2
abbrev s_is_number : Stmt := top 6
theorem sc_is_number : FnScope ["thing"] ["thing"] (defScope s_is_number) := ⟨rfl, rfl, rfl, by decide +kernel, rfl, by decide +kernel, by decide +kernel⟩
abbrev s_is_from : Stmt := top 7
theorem sc_is_from : FnScope ["thing", "least"] ["thing", "least"] (defScope s_is_from) := ⟨rfl, rfl, rfl, by decide +kernel, rfl, by decide +kernel, by decide +kernel⟩
abbrev s_is_within : Stmt := top 8
theorem sc_is_within : FnScope ["thing", "least", "most"] ["thing", "least", "most"] (defScope s_is_within) := ⟨rfl, rfl, rfl, by decide +kernel, rfl, by decide +kernel, by decide +kernel⟩
abbrev s_is_long : Stmt := top 9
theorem sc_is_long : FnScope ["thing", "length"] ["thing", "length"] (defScope s_is_long) := ⟨rfl, rfl, rfl, by decide +kernel, rfl, by decide +kernel, by decide +kernel⟩
abbrev s_are_numbers : Stmt := top 12
theorem sc_are_numbers : FnScope ["thing", "own"] ["thing"] (defScope s_are_numbers) := ⟨rfl, rfl, rfl, by decide +kernel, rfl, by decide +kernel, by decide +kernel⟩
abbrev s_is_pair : Stmt := top 14
theorem sc_is_pair : FnScope ["thing"] ["thing"] (defScope s_is_pair) := ⟨rfl, rfl, rfl, by decide +kernel, rfl, by decide +kernel, by decide +kernel⟩
abbrev s_is_tie_of : Stmt := top 15
theorem sc_is_tie_of : FnScope ["many", "number", "thing"] ["many", "number", "thing"] (defScope s_is_tie_of) := ⟨rfl, rfl, rfl, by decide +kernel, rfl, by decide +kernel, by decide +kernel⟩
abbrev s_ascends : Stmt := top 11
theorem sc_ascends : FnScope ["row", "k"] ["row"] (defScope s_ascends) := ⟨rfl, rfl, rfl, by decide +kernel, rfl, by decide +kernel, by decide +kernel⟩
section
variable {P : Program} {w : World} {K : PySem.W.Frag} {mg : Str → Option Value} {base : Heap} (B0 : Bi mg)
include B0
abbrev sp_is_number : Sp := spR (fun i : Int => [.int i]) (fun _ => True) fun _ => .bool true
theorem ok_is_number (d : Dfx K mg "is_number" s_is_number ["thing"]) : Cal P w K mg base CX0 1 "is_number" s_is_number ["thing"] sp_is_number := d.cal fun f fd F => by
  refine fnR F sc_is_number (fun _ => rfl) (by decide) fun cdv A outer s H E hr => ?_
  have hu64 := hr.units
  have hu65 := hu65_of hr
  have hu := hu_of hr
  have hu0 := hr.units0
  have nd := sc_is_number.nd
  refine ⟨_, (pss_one (ps_ret (pe_and (pe_callB (k_isi K rfl) rfl B0.isinstance (by decide +kernel) (pa_cons (pv 0) (pa_cons (pe_bltn (v := .ty "int") rfl B0.int (by decide +kernel) rfl) pa_nil))) (pe_one (pe_not (pe_callB (k_isi K rfl) rfl B0.isinstance (by decide +kernel) (pa_cons (pv 0) (pa_cons (pe_bltn (v := .ty "bool") rfl B0.bool (by decide +kernel) rfl) pa_nil)))))))), ?_⟩
  intro B i _
  exact ht_ret' (ev_andV (ev_isi (ev_var rfl) k_int_int) fun _ => ev_notV (ev_isi (ev_var rfl) k_int_bool)) rfl rfl
abbrev sp_is_from : Sp := spR (fun x : Int × Int => [.int x.1, .int x.2]) (fun _ => True) fun x => .bool (decide (x.2 ≤ x.1))
theorem ok_is_from (c_is_number : Cal P w K mg base CX0 1 "is_number" s_is_number ["thing"] sp_is_number) (d : Dfx K mg "is_from" s_is_from ["thing", "least"]) : Cal P w K mg base CX0 2 "is_from" s_is_from ["thing", "least"] sp_is_from := d.cal fun f fd F => by
  refine fnR F sc_is_from (fun _ => rfl) (by decide) fun cdv A outer s H E hr => ?_
  obtain ⟨f_is_number, fd_is_number, F_is_number, m_is_number, b_is_number, ok_is_number⟩ := c_is_number
  have hu64 := hr.units
  have hu65 := hu65_of hr
  have hu := hu_of hr
  have hu0 := hr.units0
  have nd := sc_is_from.nd
  refine ⟨_, (pss_one (ps_ret (pe_and (pe_call ok_is_number (hr.mono (by decide)) rfl m_is_number F_is_number.kp b_is_number .nil pass0 (pa_cons (pv 0) pa_nil)) (pe_one (pe_cmpR op_ge (pv 0) (pv 1) (nomark _)))))), ?_⟩
  rintro B ⟨i, j⟩ _
  exact ht_ret' (ev_andV (ev_callR (ed_cons (ev_var rfl) ed_nil) i rfl trivial) fun _ => ev_op (ev_var rfl) (ev_var rfl) ro_IB) (by simp) rfl
abbrev sp_is_within : Sp := spR (fun x : Int × Int × Int => [.int x.1, .int x.2.1, .int x.2.2]) (fun _ => True) fun x => .bool (decide (x.2.1 ≤ x.1) && decide (x.1 ≤ x.2.2))
theorem ok_is_within (c_is_number : Cal P w K mg base CX0 1 "is_number" s_is_number ["thing"] sp_is_number) (d : Dfx K mg "is_within" s_is_within ["thing", "least", "most"]) : Cal P w K mg base CX0 2 "is_within" s_is_within ["thing", "least", "most"] sp_is_within := d.cal fun f fd F => by
  refine fnR F sc_is_within (fun _ => rfl) (by decide) fun cdv A outer s H E hr => ?_
  obtain ⟨f_is_number, fd_is_number, F_is_number, m_is_number, b_is_number, ok_is_number⟩ := c_is_number
  have hu64 := hr.units
  have hu65 := hu65_of hr
  have hu := hu_of hr
  have hu0 := hr.units0
  have nd := sc_is_within.nd
  refine ⟨_, (pss_one (ps_ret (pe_and (pe_call ok_is_number (hr.mono (by decide)) rfl m_is_number F_is_number.kp b_is_number .nil pass0 (pa_cons (pv 0) pa_nil)) (pe_one (pe_chain op_le op_le (pv 1) (pv 0) (pv 2)))))), ?_⟩
  rintro B ⟨i, j, k⟩ _
  exact ht_ret' (ev_andV (ev_callR (ed_cons (ev_var rfl) ed_nil) i rfl trivial) fun _ => ev_chain (ev_var rfl) (ev_var rfl) (ev_var rfl) ro_IB ro_IB) (by simp) rfl
/-- of a tuple -/
abbrev sp_is_long : Sp := spR (fun x : List D × Int => [.tuple x.1, .int x.2]) (fun _ => True) fun x => .bool (decide ((x.1.length : Int) = x.2))
theorem ok_is_long (d : Dfx K mg "is_long" s_is_long ["thing", "length"]) : Cal P w K mg base CX0 1 "is_long" s_is_long ["thing", "length"] sp_is_long := d.cal fun f fd F => by
  refine fnR F sc_is_long (fun _ => rfl) (by decide) fun cdv A outer s H E hr => ?_
  have hu64 := hr.units
  have hu65 := hu65_of hr
  have hu := hu_of hr
  have hu0 := hr.units0
  have nd := sc_is_long.nd
  refine ⟨_, (pss_one (ps_ret (pe_and (pe_callB (k_isi K rfl) rfl B0.isinstance (by decide +kernel) (pa_cons (pv 0) (pa_cons (pe_bltn (v := .ty "tuple") rfl B0.tuple (by decide +kernel) rfl) pa_nil))) (pe_one (pe_cmpR (k_eqD K rfl hu64) (pe_callB (k_len K rfl) rfl B0.len (by decide +kernel) (pa_cons (pv 0) pa_nil)) (pv 1) (nomark _)))))), ?_⟩
  rintro B ⟨xs, n⟩ _
  exact ht_ret' (ev_andV (ev_isi (ev_var rfl) k_tuple_tuple) fun _ => ev_op (ev_cbD (ed_cons (ev_var rfl) ed_nil) rc_lenT) (ev_var rfl) (ro_eqD (shaped_int _) (shaped_int _))) (by rw [eqv_int]; rfl) rfl
end
end G

set_option Elab.async false
set_option linter.all false
set_option maxRecDepth 100000
/-! Mir: the program's defs as plain functions. -/
namespace G
open PySem L2
mutual
def tupD : D → D
  | .list xs => .tuple (tupDs xs)
  | .tuple xs => .tuple (tupDs xs)
  | .none => .none
  | .bool b => .bool b
  | .int i => .int i
  | .str s => .str s
  | .dict k => .dict k
def tupDs : List D → List D
  | [] => []
  | d :: ds => tupD d :: tupDs ds
end
mutual
def lstD : D → D
  | .list xs => .list (lstDs xs)
  | .tuple xs => .list (lstDs xs)
  | .none => .none
  | .bool b => .bool b
  | .int i => .int i
  | .str s => .str s
  | .dict k => .dict k
def lstDs : List D → List D
  | [] => []
  | d :: ds => lstD d :: lstDs ds
end
theorem tupDs_map : ∀ ds, tupDs ds = ds.map tupD
  | [] => rfl
  | d :: ds => by rw [tupDs, tupDs_map ds, List.map_cons]
theorem lstDs_map : ∀ ds, lstDs ds = ds.map lstD
  | [] => rfl
  | d :: ds => by rw [lstDs, lstDs_map ds, List.map_cons]
/-- ints, lists and tuples of them, nested fewer than n deep -/
def okD : Nat → D → Prop
  | _ + 1, .int _ => True
  | n + 1, .list ds => ds.length ≤ 1000 ∧ ∀ d ∈ ds, okD n d
  | n + 1, .tuple ds => ds.length ≤ 1000 ∧ ∀ d ∈ ds, okD n d
  | _, _ => False
theorem okD.mono : ∀ {m n : Nat} {d : D}, okD m d → m ≤ n → okD n d
  | m + 1, n + 1, .int _, _, _ => trivial
  | m + 1, n + 1, .list ds, h, k => ⟨h.1, fun d hd => okD.mono (h.2 d hd) (by omega)⟩
  | m + 1, n + 1, .tuple ds, h, k => ⟨h.1, fun d hd => okD.mono (h.2 d hd) (by omega)⟩
  | m + 1, 0, _, _, k => absurd k (by omega)
  | 0, _, _, h, _ => h.elim
  | m + 1, n + 1, .none, h, _ => h.elim
  | m + 1, n + 1, .bool _, h, _ => h.elim
  | m + 1, n + 1, .str _, h, _ => h.elim
  | m + 1, n + 1, .dict _, h, _ => h.elim
/-! ### webs -/
abbrev dN (m n : Int) (ts : List P2) : D := .tuple [.int m, .int n, .tuple (ts.map dP)]
abbrev dT (ts : List P2) : D := .tuple (ts.map dP)
abbrev dL (ts : List P2) : D := .list (ts.map dP)
abbrev dI (ns : List Int) : D := .list (ns.map PyData.int)
def markedM (marks : List Int) (many : Int) (t : P2) : List Int :=
  let near := marks.getD t.1.toNat 0
  let far := marks.getD (many + t.2).toNat 0
  if near = far then marks else marks.map fun o => if o = far then near else o
def grownM (marks : List Int) (many : Int) (ts : List P2) : List Int := ts.foldl (fun ms t => markedM ms many t) marks
def rgI (n : Nat) : List Int := (List.range n).map fun (i : Nat) => (0 : Int) + i
def hangsB (m n : Int) (ts : List P2) : Bool := decide ((lenSet (grownM (rgI (m + n).toNat) m ts) : Int) = 1)
/-- a tie of m hands, n tasks -/
abbrev InR (m n : Int) (t : P2) : Prop := 0 ≤ t.1 ∧ t.1 < m ∧ 0 ≤ t.2 ∧ t.2 < n
abbrev SLt (ts : List P2) : Prop := ts.Pairwise fun a b => ltP a b = true
/-- an end of a tie, by side -/
def sideP (t : P2) (s : Int) : Int := if s = 0 then t.1 else t.2
theorem sideP_get {t : P2} {s : Int} (h : s = 0 ∨ s = 1) : ([PyData.int t.1, .int t.2] : List D)[s.toNat]? = some (.int (sideP t s)) := by
  rcases h with h | h <;> subst h <;> rfl
theorem side_nn {s : Int} (h : s = 0 ∨ s = 1) : 0 ≤ s := by omega
/-- a web of m hands, n tasks -/
structure OkW (m n : Int) (ts : List P2) : Prop where
  m1 : 1 ≤ m
  n1 : 1 ≤ n
  mn : m + n < 64
  r : ∀ t ∈ ts, InR m n t
  s : SLt ts
  l : m + n - 1 ≤ ts.length
  z : ts.length ≤ 1000
  h : hangsB m n ts = true
/-- a spot -/
def PlOk (m n : Int) (p : P2) : Prop := (p.1 = 0 ∧ 0 ≤ p.2 ∧ p.2 < m) ∨ (p.1 = 1 ∧ 0 ≤ p.2 ∧ p.2 < n)
structure OkT (m n : Int) (ts us : List P2) : Prop where
  mn : m + n < 64
  m0 : 0 ≤ m
  n0 : 0 ≤ n
  r : ∀ t ∈ us, InR m n t
  i : ∀ t ∈ us, t ∈ ts
  s : SLt us
  l : (us.length : Int) = m + n - 1
  h : hangsB m n us = true
theorem markedM_length (marks : List Int) (many : Int) (t : P2) : (markedM marks many t).length = marks.length := by
  unfold markedM; dsimp only; split
  · rfl
  · rw [List.length_map]
theorem grownM_length (many : Int) : ∀ (ts : List P2) (marks : List Int), (grownM marks many ts).length = marks.length
  | [], _ => rfl
  | t :: ts, marks => by
    show (grownM (markedM marks many t) many ts).length = _
    rw [grownM_length many ts, markedM_length]
theorem rgI_length (n : Nat) : (rgI n).length = n := by simp [rgI]
end G

set_option Elab.async false
set_option linter.all false
set_option maxRecDepth 100000
set_option maxHeartbeats 4000000
namespace G
open PySem L2
theorem hv1 {Γ : List En} {j : Nat} (h : Γ[j]? = some .un) : ∀ i ∈ [j], Γ[i]? = some .un := fun i hi => by rw [List.mem_singleton.mp hi]; exact h
theorem hj1 {j : Nat} : ∀ i ∈ [j], i ∈ [j] := fun _ h => h
theorem hv2 {Γ : List En} {j k : Nat} (h : Γ[j]? = some .un) (h2 : Γ[k]? = some .un) : ∀ i ∈ [j, k], Γ[i]? = some .un := fun i hi => by
  rcases List.mem_cons.mp hi with z | z
  · rw [z]; exact h
  · rw [List.mem_singleton.mp z]; exact h2
theorem hj2 {j k : Nat} : ∀ i ∈ [j, k], i ∈ [j, k] := fun _ h => h
theorem rc_allF {α : Type} {K : PySem.W.Frag} {xs : List α} (f : α → Bool) : RC (rAll K) [.list (xs.map fun a => PyData.bool (f a))] (.bool (xs.all f)) := by
  have z := rc_all (K := K) (bs := xs.map f)
  rw [List.map_map] at z
  have e : (xs.map f).all id = xs.all f := by rw [List.all_map]; rfl
  rw [e] at z
  exact z
theorem none_ok {P : Program} {w : World} {K : PySem.W.Frag} {mg : Str → Option Value} {base : Heap} {f : Addr} {fd : FuncData} {ps : List Str} {α : Type} {shape : α → List D} {post : α → D → Prop} : FnOk P w K mg base CX0 0 f fd ps (spF shape (fun _ => False) post) :=
  ⟨fun vs H Q E ⟨I, x, _, _, h, _⟩ => h.elim, fun A outer s H args us vs Q E _ _ _ _ ⟨I, x, _, _, h, _⟩ => h.elim⟩
abbrev s_tupled : Stmt := top 10
theorem sc_tupled : FnScope ["value", "own"] ["value"] (defScope s_tupled) := ⟨rfl, rfl, rfl, by decide +kernel, rfl, by decide +kernel, by decide +kernel⟩
abbrev s_marked : Stmt := top 16
theorem sc_marked : FnScope ["marks", "many", "tie", "near", "far", "own"] ["marks", "many", "tie"] (defScope s_marked) := ⟨rfl, rfl, rfl, by decide +kernel, rfl, by decide +kernel, by decide +kernel⟩
abbrev s_grown_from : Stmt := top 17
theorem sc_grown_from : FnScope ["marks", "many", "ties", "tie"] ["marks", "many", "ties"] (defScope s_grown_from) := ⟨rfl, rfl, rfl, by decide +kernel, rfl, by decide +kernel, by decide +kernel⟩
abbrev s_hangs_in : Stmt := top 18
theorem sc_hangs_in : FnScope ["many", "number", "ties"] ["many", "number", "ties"] (defScope s_hangs_in) := ⟨rfl, rfl, rfl, by decide +kernel, rfl, by decide +kernel, by decide +kernel⟩
theorem ltP_lex (a b : P2) : HT.lexLt [a.1, a.2] [b.1, b.2] = ltP a b := by
  unfold HT.lexLt HT.lexLt HT.lexLt ltP
  by_cases h : a.1 = b.1
  · rw [if_pos h]
    by_cases h2 : a.2 = b.2
    · simp [h, h2]
    · simp [h, h2]
  · rw [if_neg h]; simp [h]
section
variable {P : Program} {w : World} {K : PySem.W.Frag} {mg : Str → Option Value} {base : Heap} (B0 : Bi mg)
include B0
abbrev sp_are_numbers : Sp := spR (fun ns : List Int => [.tuple (ns.map PyData.int)]) (fun ns => ns.length ≤ 1000) fun _ => .bool true
theorem ok_are_numbers (c_is_number : Cal P w K mg base CX0 1 "is_number" s_is_number ["thing"] sp_is_number) (d : Dfx K mg "are_numbers" s_are_numbers ["thing"]) : Cal P w K mg base CX0 2 "are_numbers" s_are_numbers ["thing"] sp_are_numbers := d.cal fun f fd F => by
  refine fnR F sc_are_numbers (fun _ => rfl) (by decide) fun cdv A outer s H E hr => ?_
  obtain ⟨f_is_number, fd_is_number, F_is_number, m_is_number, b_is_number, ok_is_number⟩ := c_is_number
  have hu64 := hr.units
  have hu65 := hu65_of hr
  have hu := hu_of hr
  have hu0 := hr.units0
  have nd := sc_are_numbers.nd
  refine ⟨_, (pss_one (ps_ret (pe_and (pe_callB (k_isi K rfl) rfl B0.isinstance (by decide +kernel) (pa_cons (pv 0) (pa_cons (pe_bltn (v := .ty "tuple") rfl B0.tuple (by decide +kernel) rfl) pa_nil))) (pe_one (pe_callB (k_all K rfl rfl) rfl B0.all (by decide +kernel) (pa_cons (pe_lc (own := [("own", 1)]) rfl nd (k_iT K rfl (pv 0)) (blkOk_by (N := ["thing", "own"]) (sc := defScope s_are_numbers) (own := [("own", 1)]) (by decide +kernel)) (fun _ _ _ _ _ => (pg_name (i := 1) nd rfl (by first | exact Or.inl rfl | exact Or.inr rfl))) (fun _ _ _ _ _ => pts_nil) (fun _ _ _ _ _ => (pe_call ok_is_number (hr.mono (by decide)) rfl m_is_number F_is_number.kp b_is_number .nil pass0 (pa_cons (pv 1) pa_nil)))) pa_nil)))))), ?_⟩
  intro B ns hn
  refine ht_ret' (ev_andV (ev_isi (ev_var rfl) k_tuple_tuple) fun _ => ev_cbD (ed_cons (ev_lcM (xs := ns) (c := PyData.int) (fun _ => PyData.bool true) (ei_tup (ev_var rfl)) (hv1 rfl) hj1 (by omega) fun a ha => ⟨_, eg_name, ev_callR (ed_cons (ev_var rfl) ed_nil) a rfl trivial⟩) ed_nil) (rc_allF fun _ => true)) (by simp) rfl
abbrev sp_is_pair : Sp := spR (fun p : P2 => [dP p]) (fun _ => True) fun _ => .bool true
theorem ok_is_pair (c_is_long : Cal P w K mg base CX0 1 "is_long" s_is_long ["thing", "length"] sp_is_long) (c_are_numbers : Cal P w K mg base CX0 2 "are_numbers" s_are_numbers ["thing"] sp_are_numbers) (d : Dfx K mg "is_pair" s_is_pair ["thing"]) : Cal P w K mg base CX0 3 "is_pair" s_is_pair ["thing"] sp_is_pair := d.cal fun f fd F => by
  refine fnR F sc_is_pair (fun _ => rfl) (by decide) fun cdv A outer s H E hr => ?_
  obtain ⟨f_are_numbers, fd_are_numbers, F_are_numbers, m_are_numbers, b_are_numbers, ok_are_numbers⟩ := c_are_numbers
  obtain ⟨f_is_long, fd_is_long, F_is_long, m_is_long, b_is_long, ok_is_long⟩ := c_is_long
  have hu64 := hr.units
  have hu65 := hu65_of hr
  have hu := hu_of hr
  have hu0 := hr.units0
  have nd := sc_is_pair.nd
  refine ⟨_, (pss_one (ps_ret (pe_and (pe_call ok_is_long (hr.mono (by decide)) rfl m_is_long F_is_long.kp b_is_long .nil pass0 (pa_cons (pv 0) (pa_cons pe_int pa_nil))) (pe_one (pe_call ok_are_numbers (hr.mono (by decide)) rfl m_are_numbers F_are_numbers.kp b_are_numbers .nil pass0 (pa_cons (pv 0) pa_nil)))))), ?_⟩
  intro B p _
  exact ht_ret' (ev_andV (ev_callR (ed_cons (ev_var rfl) (ed_cons ev_int ed_nil)) ([.int p.1, .int p.2], 2) rfl trivial) fun _ => ev_callR (ed_cons (ev_var rfl) ed_nil) [p.1, p.2] rfl (by simp)) (by simp) rfl
abbrev sp_is_tie_of : Sp := spR (fun x : Int × Int × P2 => [.int x.1, .int x.2.1, dP x.2.2]) (fun x => InR x.1 x.2.1 x.2.2) fun _ => .bool true
theorem ok_is_tie_of (c_is_pair : Cal P w K mg base CX0 3 "is_pair" s_is_pair ["thing"] sp_is_pair) (d : Dfx K mg "is_tie_of" s_is_tie_of ["many", "number", "thing"]) : Cal P w K mg base CX0 4 "is_tie_of" s_is_tie_of ["many", "number", "thing"] sp_is_tie_of := d.cal fun f fd F => by
  refine fnR F sc_is_tie_of (fun _ => rfl) (by decide) fun cdv A outer s H E hr => ?_
  obtain ⟨f_is_pair, fd_is_pair, F_is_pair, m_is_pair, b_is_pair, ok_is_pair⟩ := c_is_pair
  have hu64 := hr.units
  have hu65 := hu65_of hr
  have hu := hu_of hr
  have hu0 := hr.units0
  have nd := sc_is_tie_of.nd
  refine ⟨_, (pss_one (ps_ret (pe_and (pe_call ok_is_pair (hr.mono (by decide)) rfl m_is_pair F_is_pair.kp b_is_pair .nil pass0 (pa_cons (pv 2) pa_nil)) (pe_and (pe_chain op_le op_lt pe_int (pe_ix (k_ixT K rfl) (pv 2) pe_int (fun _ _ => rfl)) (pv 0)) (pe_one (pe_chain op_le op_lt pe_int (pe_ix (k_ixT K rfl) (pv 2) pe_int (fun _ _ => rfl)) (pv 1))))))), ?_⟩
  rintro B ⟨m, n, p⟩ ⟨h1, h2, h3, h4⟩
  refine ht_ret' (ev_andV (ev_callR (ed_cons (ev_var rfl) ed_nil) p rfl trivial) fun _ => ev_andV (ev_chain ev_int (ev_op (ev_var rfl) ev_int (ro_ixT (by decide) rfl)) (ev_var rfl) ro_IB ro_IB) fun _ => ev_chain ev_int (ev_op (ev_var rfl) ev_int (ro_ixT (by decide) rfl)) (ev_var rfl) ro_IB ro_IB) ?_ rfl
  simp [h1, h2, h3, h4]
abbrev sp_ascends : Sp := spR (fun ts : List P2 => [dT ts]) (fun ts => SLt ts ∧ ts.length ≤ 1000) fun _ => .bool true
theorem ok_ascends (d : Dfx K mg "ascends" s_ascends ["row"]) : Cal P w K mg base CX0 1 "ascends" s_ascends ["row"] sp_ascends := d.cal fun f fd F => by
  refine fnR F sc_ascends (fun _ => rfl) (by decide) fun cdv A outer s H E hr => ?_
  have hu0 := hr.units0
  have hu64 := hr.units
  have hu65 := hu65_of hr
  have hu := hu_of hr
  have hu0 := hr.units0
  have nd := sc_ascends.nd
  refine ⟨_, (pss_one (ps_ret (pe_callB (k_all K rfl rfl) rfl B0.all (by decide +kernel) (pa_cons (pe_lc (own := [("k", 1)]) rfl nd (pi_range1 rfl B0.range (pa_cons (pe_op op_sub (pe_callB (k_len K rfl) rfl B0.len (by decide +kernel) (pa_cons (pv 0) pa_nil)) pe_int) pa_nil)) (blkOk_by (N := ["row", "k"]) (sc := defScope s_ascends) (own := [("k", 1)]) (by decide +kernel)) (fun _ _ _ _ _ => (pg_name (i := 1) nd rfl (by first | exact Or.inl rfl | exact Or.inr rfl))) (fun _ _ _ _ _ => pts_nil) (fun _ _ _ _ _ => (pe_cmpR (k_ltT K rfl hu0) (pe_ix (k_ixT K rfl) (pv 0) (pv 1) (fun _ _ => rfl)) (pe_ix (k_ixT K rfl) (pv 0) (pe_op op_add (pv 1) pe_int) (fun _ _ => rfl)) (nomark _)))) pa_nil)))), ?_⟩
  rintro B ts ⟨hs, hn⟩
  have hl : (ts.map dP).length = ts.length := List.length_map _
  refine ht_ret' (ev_cbD (ed_cons (ev_lcM (xs := List.range ((((ts.map dP).length : Int) - 1)).toNat) (c := fun (i : Nat) => PyData.int (0 + i)) (fun _ => PyData.bool true)
    (ei_rng1 (ed_cons (ev_op (ev_cbD (ed_cons (ev_var rfl) ed_nil) rc_lenT) ev_int ro_II) ed_nil) (by omega) (by omega)) (hv1 rfl) hj1 (by rw [List.length_range]; omega) fun i hi => ⟨_, eg_name, ?_⟩) ed_nil) (rc_allF fun _ => true)) (by simp) rfl
  have hi' : i + 1 < ts.length := by have := List.mem_range.mp hi; omega
  have e1 : (ts.map dP)[((0 : Int) + (i : Nat)).toNat]? = some (dP ts[i]) := by rw [List.getElem?_map, show ((0 : Int) + (i : Nat)).toNat = i by omega, List.getElem?_eq_getElem (by omega)]; rfl
  have e2 : (ts.map dP)[((0 : Int) + (i : Nat) + 1).toNat]? = some (dP ts[i + 1]) := by rw [List.getElem?_map, show ((0 : Int) + (i : Nat) + 1).toNat = i + 1 by omega, List.getElem?_eq_getElem hi']; rfl
  refine EvE.is (ev_op (ev_op (ev_var rfl) (ev_var rfl) (ro_ixT (by omega) e1)) (ev_op (ev_var rfl) (ev_op (ev_var rfl) ev_int ro_II) (ro_ixT (by omega) e2)) ro_ltP) ?_
  rw [ltP_lex, List.pairwise_iff_getElem.mp hs i (i + 1) (by omega) hi' (by omega)]
end
end G

set_option Elab.async false
set_option linter.all false
set_option maxRecDepth 100000
set_option maxHeartbeats 4000000
namespace G
open PySem L2
abbrev s_is_web : Stmt := top 19
theorem sc_is_web : FnScope ["thing", "own"] ["thing"] (defScope s_is_web) := ⟨rfl, rfl, rfl, by decide +kernel, rfl, by decide +kernel, by decide +kernel⟩
abbrev s_sure_web : Stmt := top 20
theorem sc_sure_web : FnScope ["web", "own"] ["web"] (defScope s_sure_web) := ⟨rfl, rfl, rfl, by decide +kernel, rfl, by decide +kernel, by decide +kernel⟩
abbrev s_sure_side : Stmt := top 21
theorem sc_sure_side : FnScope ["side"] ["side"] (defScope s_sure_side) := ⟨rfl, rfl, rfl, by decide +kernel, rfl, by decide +kernel, by decide +kernel⟩
abbrev s_is_place_in : Stmt := top 22
theorem sc_is_place_in : FnScope ["web", "thing"] ["web", "thing"] (defScope s_is_place_in) := ⟨rfl, rfl, rfl, by decide +kernel, rfl, by decide +kernel, by decide +kernel⟩
abbrev s_sure_pair : Stmt := top 23
theorem sc_sure_pair : FnScope ["pair", "own"] ["pair"] (defScope s_sure_pair) := ⟨rfl, rfl, rfl, by decide +kernel, rfl, by decide +kernel, by decide +kernel⟩
abbrev s_sure_place : Stmt := top 24
theorem sc_sure_place : FnScope ["web", "place", "own"] ["web", "place"] (defScope s_sure_place) := ⟨rfl, rfl, rfl, by decide +kernel, rfl, by decide +kernel, by decide +kernel⟩
abbrev s_sure_tie : Stmt := top 25
theorem sc_sure_tie : FnScope ["web", "tie", "own"] ["web", "tie"] (defScope s_sure_tie) := ⟨rfl, rfl, rfl, by decide +kernel, rfl, by decide +kernel, by decide +kernel⟩
abbrev s_ties_by : Stmt := top 26
theorem sc_ties_by : FnScope ["web", "place", "tie"] ["web", "place"] (defScope s_ties_by) := ⟨rfl, rfl, rfl, by decide +kernel, rfl, by decide +kernel, by decide +kernel⟩
abbrev s_is_tree_in : Stmt := top 28
theorem sc_is_tree_in : FnScope ["web", "thing", "own"] ["web", "thing"] (defScope s_is_tree_in) := ⟨rfl, rfl, rfl, by decide +kernel, rfl, by decide +kernel, by decide +kernel⟩
abbrev s_sure_tree : Stmt := top 29
theorem sc_sure_tree : FnScope ["web", "tree", "own"] ["web", "tree"] (defScope s_sure_tree) := ⟨rfl, rfl, rfl, by decide +kernel, rfl, by decide +kernel, by decide +kernel⟩
theorem ev_lcD {B : Bs} {Γ : List En} {wi : TI} {g : TG} {te : TE} {vs js : List Nat} {ds : List D} (f : D → D) (hi : EvI B wi Γ ds) (hv : ∀ i ∈ vs, Γ[i]? = some .un) (hjs : ∀ i ∈ js, i ∈ vs) (hz : ds.length ≤ 100000)
    (ht : ∀ a ∈ ds, ∃ Γ', EvG B g Γ a Γ' js ∧ EvE B te Γ' (.d (f a))) : EvE B (tLc wi g tYes te vs) Γ (.d (.list (ds.map f))) :=
  ev_lcM (xs := ds) (c := id) f (by rw [List.map_id]; exact hi) hv hjs hz ht
theorem ints_get {ns : List Int} {z : Int} (h : z.toNat < ns.length) : (ns.map PyData.int)[z.toNat]? = some (.int (ns.getD z.toNat 0)) := by
  rw [List.getElem?_map, List.getElem?_eq_getElem h, List.getD_eq_getElem?_getD, List.getElem?_eq_getElem h]; rfl
section
variable {P : Program} {w : World} {K : PySem.W.Frag} {mg : Str → Option Value} {base : Heap} (B0 : Bi mg)
include B0
abbrev sp_tupled : Sp := spR (fun d : D => [d]) (okD 4) tupD
theorem ok_tupledN (d : Dfx K mg "tupled" s_tupled ["value"]) : ∀ n, Cal P w K mg base CX0 n "tupled" s_tupled ["value"] (spR (fun d : D => [d]) (okD n) tupD)
  | 0 => d.cal fun f fd F => by
    refine ⟨fun vs H Q E ⟨I, x, _, _, h, _⟩ => ?_, fun A outer s H args us vs Q E _ _ _ _ ⟨I, x, _, _, h, _⟩ => ?_⟩ <;> (cases x <;> exact h.elim)
  | n + 1 => d.cal fun f fd F => by
    have c_tupled := ok_tupledN d n
    refine fnR F sc_tupled (fun _ => rfl) (by decide) fun cdv A outer s H E hr => ?_
    obtain ⟨f_tupled, fd_tupled, F_tupled, m_tupled, b_tupled, ok_tupled⟩ := c_tupled
    have hu64 := hr.units
    have hu65 := hu65_of hr
    have hu := hu_of hr
    have hu0 := hr.units0
    have nd := sc_tupled.nd
    refine ⟨_, (pss_one (ps_ret (pe_ifExp (pt_val (pe_callB (k_isiT K rfl) rfl B0.isinstance (by decide +kernel) (pa_cons (pv 0) (pa_cons (pe_tup (pa_cons (pe_bltn (v := .ty "list") rfl B0.list (by decide +kernel) rfl) (pa_cons (pe_bltn (v := .ty "tuple") rfl B0.tuple (by decide +kernel) rfl) pa_nil))) pa_nil)))) (pe_callTy (k_tuple K rfl) rfl B0.tuple (by decide +kernel) (pa_cons (pe_lc (own := [("own", 1)]) rfl nd (pi_or (k_iL K rfl (pv 0)) (k_iT K rfl (pv 0))) (blkOk_by (N := ["value", "own"]) (sc := defScope s_tupled) (own := [("own", 1)]) (by decide +kernel)) (fun _ _ _ _ _ => (pg_name (i := 1) nd rfl (by first | exact Or.inl rfl | exact Or.inr rfl))) (fun _ _ _ _ _ => pts_nil) (fun _ _ _ _ _ => (pe_call ok_tupled (hr.mono (Nat.le_refl _)) rfl m_tupled F_tupled.kp b_tupled .nil pass0 (pa_cons (pv 1) pa_nil)))) pa_nil)) (pv 0)))), ?_⟩
    intro B x hx
    cases x with
    | int i =>
      refine ht_ret (e := .d (tupD (.int i))) (ev_if (b := false) (eb_B ((ev_isi2 (d := .int i) (ev_var rfl) k_int_list k_int_tuple).is rfl)) (fun z => nomatch z) fun _ => (ev_var rfl).is rfl) rfl
    | list ds =>
      refine ht_ret (e := .d (tupD (.list ds))) (ev_if (b := true) (eb_B ((ev_isi2 (d := .list ds) (ev_var rfl) k_list_list k_list_tuple).is rfl)) (fun _ => ?_) fun z => nomatch z) rfl
      refine (ev_cbD (ed_cons (ev_lcD tupD (ei_orL (ei_list (ev_var rfl))) (hv1 rfl) hj1 (by have := hx.1; omega) fun a ha => ⟨_, eg_name, ev_callR (ed_cons (ev_var rfl) ed_nil) a rfl (hx.2 a ha)⟩) ed_nil) rc_tupL).is ?_
      rw [tupD, tupDs_map]
    | tuple ds =>
      refine ht_ret (e := .d (tupD (.tuple ds))) (ev_if (b := true) (eb_B ((ev_isi2 (d := .tuple ds) (ev_var rfl) k_tuple_list k_tuple_tuple).is rfl)) (fun _ => ?_) fun z => nomatch z) rfl
      refine (ev_cbD (ed_cons (ev_lcD tupD (ei_orR (ei_tup (ev_var rfl))) (hv1 rfl) hj1 (by have := hx.1; omega) fun a ha => ⟨_, eg_name, ev_callR (ed_cons (ev_var rfl) ed_nil) a rfl (hx.2 a ha)⟩) ed_nil) rc_tupL).is ?_
      rw [tupD, tupDs_map]
    | none => exact hx.elim
    | bool b => exact hx.elim
    | str s => exact hx.elim
    | dict k => exact hx.elim
theorem ok_tupled (d : Dfx K mg "tupled" s_tupled ["value"]) : Cal P w K mg base CX0 4 "tupled" s_tupled ["value"] sp_tupled := ok_tupledN B0 d 4
abbrev sp_marked : Sp := spR (fun x : List Int × Int × P2 => [dI x.1, .int x.2.1, dP x.2.2]) (fun x => x.1.length ≤ 1000 ∧ 0 ≤ x.2.2.1 ∧ x.2.2.1 < x.1.length ∧ 0 ≤ x.2.1 + x.2.2.2 ∧ x.2.1 + x.2.2.2 < x.1.length) fun x => dI (markedM x.1 x.2.1 x.2.2)
theorem ok_marked (d : Dfx K mg "marked" s_marked ["marks", "many", "tie"]) : Cal P w K mg base CX0 1 "marked" s_marked ["marks", "many", "tie"] sp_marked := d.cal fun f fd F => by
  refine fnR F sc_marked (fun _ => rfl) (by decide) fun cdv A outer s H E hr => ?_
  have hu64 := hr.units
  have hu65 := hu65_of hr
  have hu := hu_of hr
  have hu0 := hr.units0
  have nd := sc_marked.nd
  refine ⟨_, (pss_cons (ps_asg (pe_tup (pa_cons (pe_ix (k_ixL K rfl) (pv 0) (pe_ix (k_ixT K rfl) (pv 2) pe_int (fun _ _ => rfl)) (fun _ _ => rfl)) (pa_cons (pe_ix (k_ixL K rfl) (pv 0) (pe_op op_add (pv 1) (pe_ix (k_ixT K rfl) (pv 2) pe_int (fun _ _ => rfl))) (fun _ _ => rfl)) pa_nil))) (k_tup (n := 2) K rfl rfl (pgs_cons (pg_name (i := 3) nd rfl (by first | exact Or.inl rfl | exact Or.inr rfl)) (pgs_cons (pg_name (i := 4) nd rfl (by first | exact Or.inl rfl | exact Or.inr rfl)) pgs_nil))))
    (pss_one (ps_ret (pe_ifExp (pt_cmpR (k_eqD K rfl hu64) (pv 3) (pv 4) (nomark _)) (pv 0) (pe_lc (own := [("own", 5)]) rfl nd (k_iL K rfl (pv 0)) (blkOk_by (N := ["marks", "many", "tie", "near", "far", "own"]) (sc := defScope s_marked) (own := [("own", 5)]) (by decide +kernel)) (fun _ _ _ _ _ => (pg_name (i := 5) nd rfl (by first | exact Or.inl rfl | exact Or.inr rfl))) (fun _ _ _ _ _ => pts_nil) (fun _ _ _ _ _ => (pe_ifExp (pt_cmpR (k_eqD K rfl hu64) (pv 5) (pv 4) (nomark _)) (pv 3) (pv 5)))))))), ?_⟩
  rintro B ⟨ms, m, t⟩ ⟨h0, h1, h2, h3, h4⟩
  dsimp only at h0 h1 h2 h3 h4
  have hz1 : t.1.toNat < ms.length := by clear hu64 hu65 hu hu0; omega
  have hz2 : (m + t.2).toNat < ms.length := by clear hu64 hu65 hu hu0; omega
  refine ht_seq (ht_asg (ev_tupD (ds := [.int (ms.getD t.1.toNat 0), .int (ms.getD (m + t.2).toNat 0)]) (ea_cons (ev_op (ev_var rfl) (ev_op (ev_var rfl) ev_int (ro_ixT (z := 0) (by decide) rfl)) (ro_ixL (z := t.1) h1 (ints_get hz1))) (ea_cons (ev_op (ev_var rfl) (ev_op (ev_var rfl) (ev_op (ev_var rfl) ev_int (ro_ixT (z := 1) (by decide) rfl)) ro_II) (ro_ixL (z := m + t.2) h3 (ints_get hz2))) ea_nil)) (by show 2 ≤ 100000; decide)) eg_tup2 ?_)
  refine ht_ret (e := .d (dI (markedM ms m t))) (ev_if (b := decide (ms.getD t.1.toNat 0 = ms.getD (m + t.2).toNat 0)) (eb_test ((ev_op (ev_var rfl) (ev_var rfl) (ro_eqD (shaped_int _) (shaped_int _))).is (by rw [eqv_int]))) (fun hb => ?_) fun hb => ?_) rfl
  · have hb := of_decide_eq_true hb
    refine (ev_var rfl).is ?_
    unfold markedM
    dsimp only
    rw [if_pos hb]
  · have hb := of_decide_eq_false hb
    have e : dI (markedM ms m t) = .list (ms.map fun o => PyData.int (if o = ms.getD (m + t.2).toNat 0 then ms.getD t.1.toNat 0 else o)) := by
      unfold markedM
      dsimp only
      rw [if_neg hb]
      show PyData.list _ = _
      rw [List.map_map]; rfl
    rw [e]
    refine ev_lcM (xs := ms) (c := PyData.int) (fun o => PyData.int (if o = ms.getD (m + t.2).toNat 0 then ms.getD t.1.toNat 0 else o)) (ei_list (ev_var rfl)) (hv1 rfl) hj1 (by omega) fun a ha => ⟨_, eg_name, ev_if (b := decide (a = ms.getD (m + t.2).toNat 0)) (eb_test ((ev_op (ev_var rfl) (ev_var rfl) (ro_eqD (shaped_int _) (shaped_int _))).is (by rw [eqv_int]))) (fun hb => ?_) fun hb => ?_⟩
    · rw [if_pos (of_decide_eq_true hb)]; exact ev_var rfl
    · rw [if_neg (of_decide_eq_false hb)]; exact ev_var rfl
abbrev sp_grown_from : Sp := spR (fun x : List Int × Int × List P2 => [dI x.1, .int x.2.1, dT x.2.2]) (fun x => x.1.length ≤ 1000 ∧ x.2.2.length ≤ 1000 ∧ ∀ t ∈ x.2.2, 0 ≤ t.1 ∧ t.1 < x.1.length ∧ 0 ≤ x.2.1 + t.2 ∧ x.2.1 + t.2 < x.1.length) fun x => dI (grownM x.1 x.2.1 x.2.2)
theorem ok_grown_from (c_marked : Cal P w K mg base CX0 1 "marked" s_marked ["marks", "many", "tie"] sp_marked) (d : Dfx K mg "grown_from" s_grown_from ["marks", "many", "ties"]) : Cal P w K mg base CX0 2 "grown_from" s_grown_from ["marks", "many", "ties"] sp_grown_from := d.cal fun f fd F => by
  refine fnR F sc_grown_from (fun _ => rfl) (by decide) fun cdv A outer s H E hr => ?_
  have hu64 := hr.units
  have hu65 := hu65_of hr
  have hu := hu_of hr
  have hu0 := hr.units0
  obtain ⟨f_marked, fd_marked, F_marked, m_marked, b_marked, ok_marked⟩ := c_marked
  have nd := sc_grown_from.nd
  refine ⟨_, (pss_cons (ps_for PassesOwn.never rfl (k_iT K rfl (pv 2)) (pg_name (i := 3) nd rfl (by first | exact Or.inl rfl | exact Or.inr rfl)) (pss_one (ps_set (i := 0) nd rfl (Or.inl rfl) (pe_call ok_marked (hr.mono (by decide)) rfl m_marked F_marked.kp b_marked .nil pass0 (pa_cons (pv 0) (pa_cons (pv 1) (pa_cons (pv 3) pa_nil)))))))
    (pss_one (ps_ret (pv 0)))), ?_⟩
  rintro B ⟨ms, m, ts⟩ ⟨h0, h1, h2⟩
  dsimp only at h0 h1 h2
  refine ht_seq (ht_for (fun i Γ => ∃ e, Γ = [.d (dI (grownM ms m (ts.take i))), .d (.int m), .d (dT ts), e]) (ei_tup (ev_var rfl)) ⟨_, rfl⟩ (fun i x Γ hx ⟨e, hΓ⟩ => ?_) fun Γ ⟨e, hΓ⟩ => ?_)
  · subst hΓ
    rw [List.getElem?_map] at hx
    obtain ⟨t, ht, rfl⟩ := Option.map_eq_some_iff.mp hx
    have hm := h2 t (List.mem_of_getElem? ht)
    refine ⟨_, _, eg_name, ht_set' (ev_callR (ed_cons (ev_var rfl) (ed_cons (ev_var rfl) (ed_cons (ev_var rfl) ed_nil))) (grownM ms m (ts.take i), m, t) rfl ?_) rfl ⟨.d (dP t), ?_⟩⟩
    · rw [grownM_length]; exact ⟨h0, hm⟩
    · have e : ts.take (i + 1) = ts.take i ++ [t] := by rw [List.take_add_one, ht]; rfl
      rw [e]
      show [_, _, _, _] = _
      unfold grownM
      rw [List.foldl_append]; rfl
  · subst hΓ
    refine ht_ret' (ev_var rfl) ?_ rfl
    rw [List.length_map, List.take_length]
abbrev sp_hangs_in : Sp := spR (fun x : Int × Int × List P2 => [.int x.1, .int x.2.1, dT x.2.2]) (fun x => 0 ≤ x.1 ∧ 0 ≤ x.2.1 ∧ x.1 + x.2.1 < 64 ∧ x.2.2.length ≤ 1000 ∧ ∀ t ∈ x.2.2, InR x.1 x.2.1 t) fun x => .bool (hangsB x.1 x.2.1 x.2.2)
theorem rgD_rgI (n : Nat) : PyData.list (rgD 0 n) = dI (rgI n) := by unfold rgD dI rgI; rw [List.map_map]; rfl
theorem ok_hangs_in (c_grown_from : Cal P w K mg base CX0 2 "grown_from" s_grown_from ["marks", "many", "ties"] sp_grown_from) (d : Dfx K mg "hangs_in" s_hangs_in ["many", "number", "ties"]) : Cal P w K mg base CX0 3 "hangs_in" s_hangs_in ["many", "number", "ties"] sp_hangs_in := d.cal fun f fd F => by
  refine fnR F sc_hangs_in (fun _ => rfl) (by decide) fun cdv A outer s H E hr => ?_
  have hu64 := hr.units
  have hu65 := hu65_of hr
  have hu := hu_of hr
  have hu0 := hr.units0
  obtain ⟨f_grown_from, fd_grown_from, F_grown_from, m_grown_from, b_grown_from, ok_grown_from⟩ := c_grown_from
  have nd := sc_hangs_in.nd
  refine ⟨_, (pss_one (ps_ret (pe_cmpR (k_eqD K rfl hu64) (pe_lenSetM rfl rfl B0.len rfl B0.set (pe_call ok_grown_from (hr.mono (by decide)) rfl m_grown_from F_grown_from.kp b_grown_from .nil pass0 (pa_cons (pe_listRg rfl rfl B0.list (prg_1 rfl B0.range (pe_op op_add (pv 0) (pv 1)))) (pa_cons (pv 0) (pa_cons (pv 2) pa_nil))))) pe_int (nomark _)))), ?_⟩
  rintro B ⟨m, n, ts⟩ ⟨h0, h1, h2, h3, h4⟩
  dsimp only at h0 h1 h2 h3 h4
  refine ht_ret' (ev_op (ev_lenSet (ev_callR (ed_cons ((ev_listRg (ev_op (ev_var rfl) (ev_var rfl) ro_II) (by omega) (by omega)).is (congrArg En.d (rgD_rgI B0 (m + n).toNat))) (ed_cons (ev_var rfl) (ed_cons (ev_var rfl) ed_nil))) (rgI (m + n).toNat, m, ts) rfl ?_) ?_) ev_int (ro_eqD (shaped_int _) (shaped_int _))) ?_ rfl
  · refine ⟨by rw [rgI_length]; omega, h3, fun t ht => ?_⟩
    have := h4 t ht
    rw [rgI_length]
    dsimp only
    omega
  · rw [grownM_length, rgI_length]; omega
  · rw [eqv_int]; rfl
abbrev sp_is_web : Sp := spR (fun x : Int × Int × List P2 => [dN x.1 x.2.1 x.2.2]) (fun x => OkW x.1 x.2.1 x.2.2) fun x => .bool true
theorem ok_is_web (c_is_from : Cal P w K mg base CX0 2 "is_from" s_is_from ["thing", "least"] sp_is_from) (c_is_long : Cal P w K mg base CX0 1 "is_long" s_is_long ["thing", "length"] sp_is_long) (c_is_tie_of : Cal P w K mg base CX0 4 "is_tie_of" s_is_tie_of ["many", "number", "thing"] sp_is_tie_of) (c_hangs_in : Cal P w K mg base CX0 3 "hangs_in" s_hangs_in ["many", "number", "ties"] sp_hangs_in) (c_ascends : Cal P w K mg base CX0 1 "ascends" s_ascends ["row"] sp_ascends) (d : Dfx K mg "is_web" s_is_web ["thing"]) : Cal P w K mg base CX0 5 "is_web" s_is_web ["thing"] sp_is_web := d.cal fun f fd F => by
  refine fnR F sc_is_web (fun _ => rfl) (by decide) fun cdv A outer s H E hr => ?_
  have hu64 := hr.units
  have hu65 := hu65_of hr
  have hu := hu_of hr
  have hu0 := hr.units0
  obtain ⟨f_is_from, fd_is_from, F_is_from, m_is_from, b_is_from, ok_is_from⟩ := c_is_from
  obtain ⟨f_is_long, fd_is_long, F_is_long, m_is_long, b_is_long, ok_is_long⟩ := c_is_long
  obtain ⟨f_is_tie_of, fd_is_tie_of, F_is_tie_of, m_is_tie_of, b_is_tie_of, ok_is_tie_of⟩ := c_is_tie_of
  obtain ⟨f_hangs_in, fd_hangs_in, F_hangs_in, m_hangs_in, b_hangs_in, ok_hangs_in⟩ := c_hangs_in
  obtain ⟨f_ascends, fd_ascends, F_ascends, m_ascends, b_ascends, ok_ascends⟩ := c_ascends
  have nd := sc_is_web.nd
  refine ⟨_, (pss_cons (ps_if (PW.pt (pw_or (pt_not (pt_val (pe_call ok_is_long (hr.mono (by decide)) rfl m_is_long F_is_long.kp b_is_long .nil pass0 (pa_cons (pv 0) (pa_cons pe_int pa_nil))))) (pw_or (pt_not (pt_val (pe_call ok_is_from (hr.mono (by decide)) rfl m_is_from F_is_from.kp b_is_from .nil pass0 (pa_cons (pe_ix (k_ixT K rfl) (pv 0) pe_int (fun _ _ => rfl)) (pa_cons pe_int pa_nil))))) (pw_or1 (pt_not (pt_val (pe_call ok_is_from (hr.mono (by decide)) rfl m_is_from F_is_from.kp b_is_from .nil pass0 (pa_cons (pe_ix (k_ixT K rfl) (pv 0) pe_int (fun _ _ => rfl)) (pa_cons pe_int pa_nil))))))))) (pss_one (ps_ret pe_bl)) pss_nil)
    (pss_cons (ps_if (PW.pt (pw_or (pt_not (pt_val (pe_callB (k_isi K rfl) rfl B0.isinstance (by decide +kernel) (pa_cons (pe_ix (k_ixT K rfl) (pv 0) pe_int (fun _ _ => rfl)) (pa_cons (pe_bltn (v := .ty "tuple") rfl B0.tuple (by decide +kernel) rfl) pa_nil))))) (pw_or1 (pt_not (pt_val (pe_callB (k_all K rfl rfl) rfl B0.all (by decide +kernel) (pa_cons (pe_lc (own := [("own", 1)]) rfl nd (k_iT K rfl (pe_ix (k_ixT K rfl) (pv 0) pe_int (fun _ _ => rfl))) (blkOk_by (N := ["thing", "own"]) (sc := defScope s_is_web) (own := [("own", 1)]) (by decide +kernel)) (fun _ _ _ _ _ => (pg_name (i := 1) nd rfl (by first | exact Or.inl rfl | exact Or.inr rfl))) (fun _ _ _ _ _ => pts_nil) (fun _ _ _ _ _ => (pe_call ok_is_tie_of (hr.mono (by decide)) rfl m_is_tie_of F_is_tie_of.kp b_is_tie_of .nil pass0 (pa_cons (pe_ix (k_ixT K rfl) (pv 0) pe_int (fun _ _ => rfl)) (pa_cons (pe_ix (k_ixT K rfl) (pv 0) pe_int (fun _ _ => rfl)) (pa_cons (pv 1) pa_nil)))))) pa_nil))))))) (pss_one (ps_ret pe_bl)) pss_nil)
    (pss_one (ps_ret (pe_and (pe_call ok_ascends (hr.mono (by decide)) rfl m_ascends F_ascends.kp b_ascends .nil pass0 (pa_cons (pe_ix (k_ixT K rfl) (pv 0) pe_int (fun _ _ => rfl)) pa_nil)) (pe_and (pe_cmpR op_ge (pe_callB (k_len K rfl) rfl B0.len (by decide +kernel) (pa_cons (pe_ix (k_ixT K rfl) (pv 0) pe_int (fun _ _ => rfl)) pa_nil)) (pe_op op_sub (pe_op op_add (pe_ix (k_ixT K rfl) (pv 0) pe_int (fun _ _ => rfl)) (pe_ix (k_ixT K rfl) (pv 0) pe_int (fun _ _ => rfl))) pe_int) (nomark _)) (pe_one (pe_call ok_hangs_in (hr.mono (by decide)) rfl m_hangs_in F_hangs_in.kp b_hangs_in .nil pass0 (pa_cons (pe_ix (k_ixT K rfl) (pv 0) pe_int (fun _ _ => rfl)) (pa_cons (pe_ix (k_ixT K rfl) (pv 0) pe_int (fun _ _ => rfl)) (pa_cons (pe_ix (k_ixT K rfl) (pv 0) pe_int (fun _ _ => rfl)) pa_nil))))))))))), ?_⟩
  rintro B ⟨m, n, ts⟩ h
  dsimp only at h
  refine ht_seq (ht_if (b := false) (eb_is (eb_or (a := false) (eb_is (eb_not (eb_B (ev_callR (ed_cons (ev_var rfl) (ed_cons ev_int ed_nil)) ([.int m, .int n, dT ts], 3) rfl trivial))) rfl) fun _ => eb_or (a := false) (eb_is (eb_not (eb_B (ev_callR (ed_cons (ev_op (ev_var rfl) ev_int (ro_ixT (by decide) rfl)) (ed_cons ev_int ed_nil)) (m, 1) rfl trivial))) (by rw [decide_eq_true h.m1]; rfl)) fun _ => eb_not (eb_B (ev_callR (ed_cons (ev_op (ev_var rfl) ev_int (ro_ixT (by decide) rfl)) (ed_cons ev_int ed_nil)) (n, 1) rfl trivial))) (by rw [decide_eq_true h.n1]; rfl)) (fun z => nomatch z) fun _ => ht_next ?_)
  refine ht_seq (ht_if (b := false) (eb_is (eb_or (a := false) (eb_is (eb_not (eb_B (ev_isi (ev_op (ev_var rfl) ev_int (ro_ixT (by decide) rfl)) k_tuple_tuple))) rfl) fun _ => eb_not (eb_B (ev_cbD (ed_cons (ev_lcM (xs := ts) (c := dP) (fun _ => PyData.bool true) (ei_tup (ev_op (ev_var rfl) ev_int (ro_ixT (by decide) rfl))) (hv1 rfl) hj1 (by have := h.z; omega) fun a ha => ⟨_, eg_name, ev_callR (ed_cons (ev_op (ev_var rfl) ev_int (ro_ixT (by decide) rfl)) (ed_cons (ev_op (ev_var rfl) ev_int (ro_ixT (by decide) rfl)) (ed_cons (ev_var rfl) ed_nil))) (m, n, a) rfl (h.r a ha)⟩) ed_nil) (rc_allF fun _ => true)))) (by simp)) (fun z => nomatch z) fun _ => ht_next ?_)
  refine ht_ret' (ev_andV (ev_callR (ed_cons (ev_op (ev_var rfl) ev_int (ro_ixT (by decide) rfl)) ed_nil) ts rfl ⟨h.s, h.z⟩) fun _ => ev_andV (ev_op (ev_cbD (ed_cons (ev_op (ev_var rfl) ev_int (ro_ixT (by decide) rfl)) ed_nil) rc_lenT) (ev_op (ev_op (ev_op (ev_var rfl) ev_int (ro_ixT (by decide) rfl)) (ev_op (ev_var rfl) ev_int (ro_ixT (by decide) rfl)) ro_II) ev_int ro_II) ro_IB) fun _ => ev_callR (ed_cons (ev_op (ev_var rfl) ev_int (ro_ixT (by decide) rfl)) (ed_cons (ev_op (ev_var rfl) ev_int (ro_ixT (by decide) rfl)) (ed_cons (ev_op (ev_var rfl) ev_int (ro_ixT (by decide) rfl)) ed_nil))) (m, n, ts) rfl ⟨by have := h.m1; dsimp only; omega, by have := h.n1; dsimp only; omega, h.mn, h.z, h.r⟩) ?_ rfl
  have := h.l
  simp only [h.h, List.length_map]
  rw [decide_eq_true this]; rfl
abbrev sp_sure_web : Sp := spR (fun x : D × Int × Int × List P2 => [x.1]) (fun x => okD 4 x.1 ∧ tupD x.1 = dN x.2.1 x.2.2.1 x.2.2.2 ∧ OkW x.2.1 x.2.2.1 x.2.2.2) fun x => dN x.2.1 x.2.2.1 x.2.2.2
theorem ok_sure_web (c_tupled : Cal P w K mg base CX0 4 "tupled" s_tupled ["value"] sp_tupled) (c_is_web : Cal P w K mg base CX0 5 "is_web" s_is_web ["thing"] sp_is_web) (d : Dfx K mg "sure_web" s_sure_web ["web"]) : Cal P w K mg base CX0 6 "sure_web" s_sure_web ["web"] sp_sure_web := d.cal fun f fd F => by
  refine fnR F sc_sure_web (fun _ => rfl) (by decide) fun cdv A outer s H E hr => ?_
  have hu64 := hr.units
  have hu65 := hu65_of hr
  have hu := hu_of hr
  have hu0 := hr.units0
  obtain ⟨f_tupled, fd_tupled, F_tupled, m_tupled, b_tupled, ok_tupled⟩ := c_tupled
  obtain ⟨f_is_web, fd_is_web, F_is_web, m_is_web, b_is_web, ok_is_web⟩ := c_is_web
  have nd := sc_sure_web.nd
  refine ⟨_, (pss_cons (ps_set (i := 1) nd rfl (Or.inl rfl) (pe_call ok_tupled (hr.mono (by decide)) rfl m_tupled F_tupled.kp b_tupled .nil pass0 (pa_cons (pv 0) pa_nil)))
    (pss_cons (ps_if (pt_not (pt_val (pe_call ok_is_web (hr.mono (by decide)) rfl m_is_web F_is_web.kp b_is_web .nil pass0 (pa_cons (pv 1) pa_nil)))) (pss_one ps_never) pss_nil)
    (pss_one (ps_ret (pv 1))))), ?_⟩
  rintro B ⟨d, m, n, ts⟩ ⟨h1, h2, h3⟩
  dsimp only at h1 h2 h3
  refine ht_seq (ht_set' (ev_callR (ed_cons (ev_var rfl) ed_nil) d rfl h1) (congrArg En.d h2) ?_)
  exact ht_seq (ht_if (b := false) (eb_is (eb_not (eb_B (ev_callR (ed_cons (ev_var rfl) ed_nil) (m, n, ts) rfl h3))) rfl) (fun z => nomatch z) fun _ => ht_next (ht_ret (ev_var rfl) rfl))
abbrev sp_sure_side : Sp := spR (fun x : Int => [.int x]) (fun x => x = 0 ∨ x = 1) fun x => .int x
theorem ok_sure_side (c_is_within : Cal P w K mg base CX0 2 "is_within" s_is_within ["thing", "least", "most"] sp_is_within) (d : Dfx K mg "sure_side" s_sure_side ["side"]) : Cal P w K mg base CX0 3 "sure_side" s_sure_side ["side"] sp_sure_side := d.cal fun f fd F => by
  refine fnR F sc_sure_side (fun _ => rfl) (by decide) fun cdv A outer s H E hr => ?_
  have hu64 := hr.units
  have hu65 := hu65_of hr
  have hu := hu_of hr
  have hu0 := hr.units0
  obtain ⟨f_is_within, fd_is_within, F_is_within, m_is_within, b_is_within, ok_is_within⟩ := c_is_within
  have nd := sc_sure_side.nd
  refine ⟨_, (pss_cons (ps_if (pt_not (pt_val (pe_call ok_is_within (hr.mono (by decide)) rfl m_is_within F_is_within.kp b_is_within .nil pass0 (pa_cons (pv 0) (pa_cons pe_int (pa_cons pe_int pa_nil)))))) (pss_one ps_never) pss_nil)
    (pss_one (ps_ret (pv 0)))), ?_⟩
  rintro B s h
  exact ht_seq (ht_if (b := false) (eb_is (eb_not (eb_B (ev_callR (ed_cons (ev_var rfl) (ed_cons ev_int (ed_cons ev_int ed_nil))) (s, 0, 1) rfl trivial))) (by rcases h with h | h <;> subst h <;> rfl)) (fun z => nomatch z) fun _ => ht_next (ht_ret (ev_var rfl) rfl))
abbrev sp_is_place_in : Sp := spR (fun x : (Int × Int × List P2) × P2 => [dN x.1.1 x.1.2.1 x.1.2.2, dP x.2]) (fun x => PlOk x.1.1 x.1.2.1 x.2) fun x => .bool true
theorem ok_is_place_in (c_is_within : Cal P w K mg base CX0 2 "is_within" s_is_within ["thing", "least", "most"] sp_is_within) (c_is_pair : Cal P w K mg base CX0 3 "is_pair" s_is_pair ["thing"] sp_is_pair) (d : Dfx K mg "is_place_in" s_is_place_in ["web", "thing"]) : Cal P w K mg base CX0 4 "is_place_in" s_is_place_in ["web", "thing"] sp_is_place_in := d.cal fun f fd F => by
  refine fnR F sc_is_place_in (fun _ => rfl) (by decide) fun cdv A outer s H E hr => ?_
  have hu64 := hr.units
  have hu65 := hu65_of hr
  have hu := hu_of hr
  have hu0 := hr.units0
  obtain ⟨f_is_within, fd_is_within, F_is_within, m_is_within, b_is_within, ok_is_within⟩ := c_is_within
  obtain ⟨f_is_pair, fd_is_pair, F_is_pair, m_is_pair, b_is_pair, ok_is_pair⟩ := c_is_pair
  have nd := sc_is_place_in.nd
  refine ⟨_, (pss_one (ps_ret (pe_and (pe_call ok_is_pair (hr.mono (by decide)) rfl m_is_pair F_is_pair.kp b_is_pair .nil pass0 (pa_cons (pv 1) pa_nil)) (pe_and (pe_call ok_is_within (hr.mono (by decide)) rfl m_is_within F_is_within.kp b_is_within .nil pass0 (pa_cons (pe_ix (k_ixT K rfl) (pv 1) pe_int (fun _ _ => rfl)) (pa_cons pe_int (pa_cons pe_int pa_nil)))) (pe_one (pe_chain op_le op_lt pe_int (pe_ix (k_ixT K rfl) (pv 1) pe_int (fun _ _ => rfl)) (pe_ix (k_ixT K rfl) (pv 0) (pe_ix (k_ixT K rfl) (pv 1) pe_int (fun _ _ => rfl)) (fun _ _ => rfl)))))))), ?_⟩
  rintro B ⟨⟨m, n, ts⟩, p⟩ h
  dsimp only at h
  have hp : p.1 = 0 ∨ p.1 = 1 := h.elim (fun z => .inl z.1) fun z => .inr z.1
  have hg : ([PyData.int m, .int n, dT ts] : List D)[p.1.toNat]? = some (.int (if p.1 = 0 then m else n)) := by rcases hp with z | z <;> rw [z] <;> rfl
  refine ht_ret' (ev_andV (ev_callR (ed_cons (ev_var rfl) ed_nil) p rfl trivial) fun _ => ev_andV (ev_callR (ed_cons (ev_op (ev_var rfl) ev_int (ro_ixT (by decide) rfl)) (ed_cons ev_int (ed_cons ev_int ed_nil))) (p.1, 0, 1) rfl trivial) fun _ => ev_chain ev_int (ev_op (ev_var rfl) ev_int (ro_ixT (by decide) rfl)) (ev_op (ev_var rfl) (ev_op (ev_var rfl) ev_int (ro_ixT (by decide) rfl)) (ro_ixT (side_nn hp) hg)) ro_IB ro_IB) ?_ rfl
  rcases h with ⟨a, b, c⟩ | ⟨a, b, c⟩ <;> simp [a, b, c]
abbrev sp_sure_pair : Sp := spR (fun x : D × P2 => [x.1]) (fun x => okD 4 x.1 ∧ tupD x.1 = dP x.2) fun x => dP x.2
theorem ok_sure_pair (c_tupled : Cal P w K mg base CX0 4 "tupled" s_tupled ["value"] sp_tupled) (c_is_pair : Cal P w K mg base CX0 3 "is_pair" s_is_pair ["thing"] sp_is_pair) (d : Dfx K mg "sure_pair" s_sure_pair ["pair"]) : Cal P w K mg base CX0 5 "sure_pair" s_sure_pair ["pair"] sp_sure_pair := d.cal fun f fd F => by
  refine fnR F sc_sure_pair (fun _ => rfl) (by decide) fun cdv A outer s H E hr => ?_
  have hu64 := hr.units
  have hu65 := hu65_of hr
  have hu := hu_of hr
  have hu0 := hr.units0
  obtain ⟨f_tupled, fd_tupled, F_tupled, m_tupled, b_tupled, ok_tupled⟩ := c_tupled
  obtain ⟨f_is_pair, fd_is_pair, F_is_pair, m_is_pair, b_is_pair, ok_is_pair⟩ := c_is_pair
  have nd := sc_sure_pair.nd
  refine ⟨_, (pss_cons (ps_set (i := 1) nd rfl (Or.inl rfl) (pe_call ok_tupled (hr.mono (by decide)) rfl m_tupled F_tupled.kp b_tupled .nil pass0 (pa_cons (pv 0) pa_nil)))
    (pss_cons (ps_if (pt_not (pt_val (pe_call ok_is_pair (hr.mono (by decide)) rfl m_is_pair F_is_pair.kp b_is_pair .nil pass0 (pa_cons (pv 1) pa_nil)))) (pss_one ps_never) pss_nil)
    (pss_one (ps_ret (pv 1))))), ?_⟩
  rintro B ⟨d, p⟩ ⟨h1, h2⟩
  dsimp only at h1 h2
  refine ht_seq (ht_set' (ev_callR (ed_cons (ev_var rfl) ed_nil) d rfl h1) (congrArg En.d h2) ?_)
  exact ht_seq (ht_if (b := false) (eb_is (eb_not (eb_B (ev_callR (ed_cons (ev_var rfl) ed_nil) p rfl trivial))) rfl) (fun z => nomatch z) fun _ => ht_next (ht_ret (ev_var rfl) rfl))
abbrev sp_sure_place : Sp := spR (fun x : (Int × Int × List P2) × D × P2 => [dN x.1.1 x.1.2.1 x.1.2.2, x.2.1]) (fun x => okD 4 x.2.1 ∧ tupD x.2.1 = dP x.2.2 ∧ PlOk x.1.1 x.1.2.1 x.2.2) fun x => dP x.2.2
theorem ok_sure_place (c_sure_pair : Cal P w K mg base CX0 5 "sure_pair" s_sure_pair ["pair"] sp_sure_pair) (c_is_place_in : Cal P w K mg base CX0 4 "is_place_in" s_is_place_in ["web", "thing"] sp_is_place_in) (d : Dfx K mg "sure_place" s_sure_place ["web", "place"]) : Cal P w K mg base CX0 6 "sure_place" s_sure_place ["web", "place"] sp_sure_place := d.cal fun f fd F => by
  refine fnR F sc_sure_place (fun _ => rfl) (by decide) fun cdv A outer s H E hr => ?_
  have hu64 := hr.units
  have hu65 := hu65_of hr
  have hu := hu_of hr
  have hu0 := hr.units0
  obtain ⟨f_sure_pair, fd_sure_pair, F_sure_pair, m_sure_pair, b_sure_pair, ok_sure_pair⟩ := c_sure_pair
  obtain ⟨f_is_place_in, fd_is_place_in, F_is_place_in, m_is_place_in, b_is_place_in, ok_is_place_in⟩ := c_is_place_in
  have nd := sc_sure_place.nd
  refine ⟨_, (pss_cons (ps_set (i := 2) nd rfl (Or.inl rfl) (pe_call ok_sure_pair (hr.mono (by decide)) rfl m_sure_pair F_sure_pair.kp b_sure_pair .nil pass0 (pa_cons (pv 1) pa_nil)))
    (pss_cons (ps_if (pt_not (pt_val (pe_call ok_is_place_in (hr.mono (by decide)) rfl m_is_place_in F_is_place_in.kp b_is_place_in .nil pass0 (pa_cons (pv 0) (pa_cons (pv 2) pa_nil))))) (pss_one ps_never) pss_nil)
    (pss_one (ps_ret (pv 2))))), ?_⟩
  rintro B ⟨⟨m, n, ts⟩, d, p⟩ ⟨h1, h2, h3⟩
  dsimp only at h1 h2 h3
  refine ht_seq (ht_set (ev_callR (ed_cons (ev_var rfl) ed_nil) (d, p) rfl ⟨h1, h2⟩) ?_)
  exact ht_seq (ht_if (b := false) (eb_is (eb_not (eb_B (ev_callR (ed_cons (ev_var rfl) (ed_cons (ev_var rfl) ed_nil)) ((m, n, ts), p) rfl h3))) rfl) (fun z => nomatch z) fun _ => ht_next (ht_ret (ev_var rfl) rfl))
abbrev sp_sure_tie : Sp := spR (fun x : (Int × Int × List P2) × D × P2 => [dN x.1.1 x.1.2.1 x.1.2.2, x.2.1]) (fun x => okD 4 x.2.1 ∧ tupD x.2.1 = dP x.2.2 ∧ x.2.2 ∈ x.1.2.2) fun x => dP x.2.2
theorem ok_sure_tie (c_sure_pair : Cal P w K mg base CX0 5 "sure_pair" s_sure_pair ["pair"] sp_sure_pair) (d : Dfx K mg "sure_tie" s_sure_tie ["web", "tie"]) : Cal P w K mg base CX0 6 "sure_tie" s_sure_tie ["web", "tie"] sp_sure_tie := d.cal fun f fd F => by
  refine fnR F sc_sure_tie (fun _ => rfl) (by decide) fun cdv A outer s H E hr => ?_
  have hu64 := hr.units
  have hu65 := hu65_of hr
  have hu := hu_of hr
  have hu0 := hr.units0
  obtain ⟨f_sure_pair, fd_sure_pair, F_sure_pair, m_sure_pair, b_sure_pair, ok_sure_pair⟩ := c_sure_pair
  have nd := sc_sure_tie.nd
  refine ⟨_, (pss_cons (ps_set (i := 2) nd rfl (Or.inl rfl) (pe_call ok_sure_pair (hr.mono (by decide)) rfl m_sure_pair F_sure_pair.kp b_sure_pair .nil pass0 (pa_cons (pv 1) pa_nil)))
    (pss_cons (ps_if (pt_cmpR (k_notInDT K rfl hu65) (pv 2) (pe_ix (k_ixT K rfl) (pv 0) pe_int (fun _ _ => rfl)) rfl) (pss_one ps_never) pss_nil)
    (pss_one (ps_ret (pv 2))))), ?_⟩
  rintro B ⟨⟨m, n, ts⟩, d, p⟩ ⟨h1, h2, h3⟩
  dsimp only at h1 h2 h3
  refine ht_seq (ht_set (ev_callR (ed_cons (ev_var rfl) ed_nil) (d, p) rfl ⟨h1, h2⟩) ?_)
  refine ht_seq (ht_if (b := false) (eb_test ((ev_op (ev_var rfl) (ev_op (ev_var rfl) ev_int (ro_ixT (by decide) rfl)) (ro_notInT (shaped_pair p) (shaped_pairs ts))).is ?_)) (fun z => nomatch z) fun _ => ht_next (ht_ret (ev_var rfl) rfl))
  rw [any_pair, decide_eq_true h3]; rfl
abbrev sp_ties_by : Sp := spR (fun x : (Int × Int × List P2) × P2 => [dN x.1.1 x.1.2.1 x.1.2.2, dP x.2]) (fun x => (x.2.1 = 0 ∨ x.2.1 = 1) ∧ x.1.2.2.length ≤ 1000) fun x => dL (x.1.2.2.filter fun t => decide (sideP t x.2.1 = x.2.2))
theorem ok_ties_by (d : Dfx K mg "ties_by" s_ties_by ["web", "place"]) : Cal P w K mg base CX0 1 "ties_by" s_ties_by ["web", "place"] sp_ties_by := d.cal fun f fd F => by
  refine fnR F sc_ties_by (fun _ => rfl) (by decide) fun cdv A outer s H E hr => ?_
  have hu64 := hr.units
  have hu65 := hu65_of hr
  have hu := hu_of hr
  have hu0 := hr.units0
  have nd := sc_ties_by.nd
  refine ⟨_, (pss_one (ps_ret (pe_lc (own := [("tie", 2)]) rfl nd (k_iT K rfl (pe_ix (k_ixT K rfl) (pv 0) pe_int (fun _ _ => rfl))) (blkOk_by (N := ["web", "place", "tie"]) (sc := defScope s_ties_by) (own := [("tie", 2)]) (by decide +kernel)) (fun _ _ _ _ _ => (pg_name (i := 2) nd rfl (by first | exact Or.inl rfl | exact Or.inr rfl))) (fun _ _ _ _ _ => pts_one (pt_cmpR (k_eqD K rfl hu64) (pe_ix (k_ixT K rfl) (pv 2) (pe_ix (k_ixT K rfl) (pv 1) pe_int (fun _ _ => rfl)) (fun _ _ => rfl)) (pe_ix (k_ixT K rfl) (pv 1) pe_int (fun _ _ => rfl)) (nomark _))) (fun _ _ _ _ _ => (pv 2))))), ?_⟩
  rintro B ⟨⟨m, n, ts⟩, p⟩ ⟨h1, h2⟩
  dsimp only at h1 h2
  refine ht_ret (ev_lcF (xs := ts) (c := dP) (fun t => decide (sideP t p.1 = p.2)) dP (ei_tup (ev_op (ev_var rfl) ev_int (ro_ixT (by decide) rfl))) (hv1 rfl) hj1 (by omega) fun t ht => ⟨_, eg_name, ?_, fun _ => ev_var rfl⟩) rfl
  exact eb_test ((ev_op (ev_op (ev_var rfl) (ev_op (ev_var rfl) ev_int (ro_ixT (by decide) rfl)) (ro_ixT (side_nn h1) (sideP_get h1))) (ev_op (ev_var rfl) ev_int (ro_ixT (by decide) rfl)) (ro_eqD (shaped_int _) (shaped_int _))).is (by rw [eqv_int]))
abbrev sp_is_tree_in : Sp := spR (fun x : (Int × Int × List P2) × List P2 => [dN x.1.1 x.1.2.1 x.1.2.2, dT x.2]) (fun x => OkT x.1.1 x.1.2.1 x.1.2.2 x.2) fun x => .bool true
theorem ok_is_tree_in (c_is_pair : Cal P w K mg base CX0 3 "is_pair" s_is_pair ["thing"] sp_is_pair) (c_hangs_in : Cal P w K mg base CX0 3 "hangs_in" s_hangs_in ["many", "number", "ties"] sp_hangs_in) (c_ascends : Cal P w K mg base CX0 1 "ascends" s_ascends ["row"] sp_ascends) (d : Dfx K mg "is_tree_in" s_is_tree_in ["web", "thing"]) : Cal P w K mg base CX0 4 "is_tree_in" s_is_tree_in ["web", "thing"] sp_is_tree_in := d.cal fun f fd F => by
  refine fnR F sc_is_tree_in (fun _ => rfl) (by decide) fun cdv A outer s H E hr => ?_
  have hu64 := hr.units
  have hu65 := hu65_of hr
  have hu := hu_of hr
  have hu0 := hr.units0
  obtain ⟨f_is_pair, fd_is_pair, F_is_pair, m_is_pair, b_is_pair, ok_is_pair⟩ := c_is_pair
  obtain ⟨f_hangs_in, fd_hangs_in, F_hangs_in, m_hangs_in, b_hangs_in, ok_hangs_in⟩ := c_hangs_in
  obtain ⟨f_ascends, fd_ascends, F_ascends, m_ascends, b_ascends, ok_ascends⟩ := c_ascends
  have nd := sc_is_tree_in.nd
  refine ⟨_, (pss_cons (ps_if (PW.pt (pw_or (pt_not (pt_val (pe_callB (k_isi K rfl) rfl B0.isinstance (by decide +kernel) (pa_cons (pv 1) (pa_cons (pe_bltn (v := .ty "tuple") rfl B0.tuple (by decide +kernel) rfl) pa_nil))))) (pw_or1 (pt_cmpR (k_neD K rfl hu64) (pe_callB (k_len K rfl) rfl B0.len (by decide +kernel) (pa_cons (pv 1) pa_nil)) (pe_op op_sub (pe_op op_add (pe_ix (k_ixT K rfl) (pv 0) pe_int (fun _ _ => rfl)) (pe_ix (k_ixT K rfl) (pv 0) pe_int (fun _ _ => rfl))) pe_int) (nomark _))))) (pss_one (ps_ret pe_bl)) pss_nil)
    (pss_cons (ps_if (pt_not (pt_val (pe_callB (k_all K rfl rfl) rfl B0.all (by decide +kernel) (pa_cons (pe_lc (own := [("own", 2)]) rfl nd (k_iT K rfl (pv 1)) (blkOk_by (N := ["web", "thing", "own"]) (sc := defScope s_is_tree_in) (own := [("own", 2)]) (by decide +kernel)) (fun _ _ _ _ _ => (pg_name (i := 2) nd rfl (by first | exact Or.inl rfl | exact Or.inr rfl))) (fun _ _ _ _ _ => pts_nil) (fun _ _ _ _ _ => (pe_and (pe_call ok_is_pair (hr.mono (by decide)) rfl m_is_pair F_is_pair.kp b_is_pair .nil pass0 (pa_cons (pv 2) pa_nil)) (pe_one (pe_cmpR (k_inDT K rfl hu65) (pv 2) (pe_ix (k_ixT K rfl) (pv 0) pe_int (fun _ _ => rfl)) rfl))))) pa_nil)))) (pss_one (ps_ret pe_bl)) pss_nil)
    (pss_one (ps_ret (pe_and (pe_call ok_ascends (hr.mono (by decide)) rfl m_ascends F_ascends.kp b_ascends .nil pass0 (pa_cons (pv 1) pa_nil)) (pe_one (pe_call ok_hangs_in (hr.mono (by decide)) rfl m_hangs_in F_hangs_in.kp b_hangs_in .nil pass0 (pa_cons (pe_ix (k_ixT K rfl) (pv 0) pe_int (fun _ _ => rfl)) (pa_cons (pe_ix (k_ixT K rfl) (pv 0) pe_int (fun _ _ => rfl)) (pa_cons (pv 1) pa_nil)))))))))), ?_⟩
  rintro B ⟨⟨m, n, ts⟩, us⟩ h
  dsimp only at h
  have hl : us.length ≤ 1000 := by have := h.l; have := h.mn; omega
  refine ht_seq (ht_if (b := false) (eb_is (eb_or (a := false) (eb_is (eb_not (eb_B (ev_isi (ev_var rfl) k_tuple_tuple))) rfl) fun _ => eb_test (ev_op (ev_cbD (ed_cons (ev_var rfl) ed_nil) rc_lenT) (ev_op (ev_op (ev_op (ev_var rfl) ev_int (ro_ixT (by decide) rfl)) (ev_op (ev_var rfl) ev_int (ro_ixT (by decide) rfl)) ro_II) ev_int ro_II) (ro_neD (shaped_int _) (shaped_int _)))) (by rw [eqv_int, List.length_map, decide_eq_true h.l]; rfl)) (fun z => nomatch z) fun _ => ht_next ?_)
  refine ht_seq (ht_if (b := false) (eb_is (eb_not (eb_B (ev_cbD (ed_cons (ev_lcM (xs := us) (c := dP) (fun _ => PyData.bool true) (ei_tup (ev_var rfl)) (hv1 rfl) hj1 (by omega) fun a ha => ⟨_, eg_name, (ev_andV (ev_callR (ed_cons (ev_var rfl) ed_nil) a rfl trivial) fun _ => ev_op (ev_var rfl) (ev_op (ev_var rfl) ev_int (ro_ixT (by decide) rfl)) (ro_inT (shaped_pair a) (shaped_pairs ts))).is (by rw [any_pair, decide_eq_true (h.i a ha)]; rfl)⟩) ed_nil) (rc_allF fun _ => true)))) (by simp)) (fun z => nomatch z) fun _ => ht_next ?_)
  refine ht_ret' (ev_andV (ev_callR (ed_cons (ev_var rfl) ed_nil) us rfl ⟨h.s, hl⟩) fun _ => ev_callR (ed_cons (ev_op (ev_var rfl) ev_int (ro_ixT (by decide) rfl)) (ed_cons (ev_op (ev_var rfl) ev_int (ro_ixT (by decide) rfl)) (ed_cons (ev_var rfl) ed_nil))) (m, n, us) rfl ⟨h.m0, h.n0, h.mn, hl, h.r⟩) ?_ rfl
  rw [h.h]; rfl
abbrev sp_sure_tree : Sp := spR (fun x : (Int × Int × List P2) × D × List P2 => [dN x.1.1 x.1.2.1 x.1.2.2, x.2.1]) (fun x => okD 4 x.2.1 ∧ tupD x.2.1 = dT x.2.2 ∧ OkT x.1.1 x.1.2.1 x.1.2.2 x.2.2) fun x => dT x.2.2
theorem ok_sure_tree (c_tupled : Cal P w K mg base CX0 4 "tupled" s_tupled ["value"] sp_tupled) (c_is_tree_in : Cal P w K mg base CX0 4 "is_tree_in" s_is_tree_in ["web", "thing"] sp_is_tree_in) (d : Dfx K mg "sure_tree" s_sure_tree ["web", "tree"]) : Cal P w K mg base CX0 5 "sure_tree" s_sure_tree ["web", "tree"] sp_sure_tree := d.cal fun f fd F => by
  refine fnR F sc_sure_tree (fun _ => rfl) (by decide) fun cdv A outer s H E hr => ?_
  have hu64 := hr.units
  have hu65 := hu65_of hr
  have hu := hu_of hr
  have hu0 := hr.units0
  obtain ⟨f_tupled, fd_tupled, F_tupled, m_tupled, b_tupled, ok_tupled⟩ := c_tupled
  obtain ⟨f_is_tree_in, fd_is_tree_in, F_is_tree_in, m_is_tree_in, b_is_tree_in, ok_is_tree_in⟩ := c_is_tree_in
  have nd := sc_sure_tree.nd
  refine ⟨_, (pss_cons (ps_set (i := 2) nd rfl (Or.inl rfl) (pe_call ok_tupled (hr.mono (by decide)) rfl m_tupled F_tupled.kp b_tupled .nil pass0 (pa_cons (pv 1) pa_nil)))
    (pss_cons (ps_if (pt_not (pt_val (pe_call ok_is_tree_in (hr.mono (by decide)) rfl m_is_tree_in F_is_tree_in.kp b_is_tree_in .nil pass0 (pa_cons (pv 0) (pa_cons (pv 2) pa_nil))))) (pss_one ps_never) pss_nil)
    (pss_one (ps_ret (pv 2))))), ?_⟩
  rintro B ⟨⟨m, n, ts⟩, d, us⟩ ⟨h1, h2, h3⟩
  dsimp only at h1 h2 h3
  refine ht_seq (ht_set' (ev_callR (ed_cons (ev_var rfl) ed_nil) d rfl h1) (congrArg En.d h2) ?_)
  exact ht_seq (ht_if (b := false) (eb_is (eb_not (eb_B (ev_callR (ed_cons (ev_var rfl) (ed_cons (ev_var rfl) ed_nil)) ((m, n, ts), us) rfl h3))) rfl) (fun z => nomatch z) fun _ => ht_next (ht_ret (ev_var rfl) rfl))
end
end G

set_option Elab.async false
set_option linter.all false
set_option maxRecDepth 100000
/-! Mir2: the breadth-first walk, what it finds, its ways. -/
namespace G
open PySem L2
abbrev Fnd := List (P2 × Option (P2 × P2))
def valD : Option (P2 × P2) → D
  | none => .none
  | some (t, o) => .tuple [dP t, dP o]
def fndD (f : Fnd) : List (P2 × D) := f.map fun kv => (kv.1, valD kv.2)
def keys (f : Fnd) : List P2 := f.map (·.1)
def goalP (own t : P2) : P2 := (1 - own.1, sideP t (1 - own.1))
def stepT (own : P2) (s : Fnd × List P2) (t : P2) : Fnd × List P2 :=
  if sideP t own.1 = own.2 ∧ goalP own t ∉ keys s.1 then (s.1 ++ [(goalP own t, some (t, own))], s.2 ++ [goalP own t]) else s
def stepO (tree : List P2) (s : Fnd × List P2) (own : P2) : Fnd × List P2 := tree.foldl (stepT own) s
def bfsM (tree : List P2) : Nat → Fnd → List P2 → Fnd
  | 0, f, _ => f
  | _ + 1, f, [] => f
  | n + 1, f, o :: os => bfsM tree n ((o :: os).foldl (stepO tree) (f, [])).1 ((o :: os).foldl (stepO tree) (f, [])).2
def stepsM (tree : List P2) (place : P2) : Fnd := bfsM tree 100 [(place, none)] [place]
/-- joined by a tie -/
def Lk (t o p : P2) : Prop := (o = (0, t.1) ∧ p = (1, t.2)) ∨ (o = (1, t.2) ∧ p = (0, t.1))
theorem Lk.symm {t o p : P2} (h : Lk t o p) : Lk t p o := h.elim (fun z => .inr ⟨z.2, z.1⟩) fun z => .inl ⟨z.2, z.1⟩
inductive Con (ts : List P2) : P2 → P2 → Prop
  | refl (a : P2) : Con ts a a
  | snoc {a b c t : P2} : Con ts a b → t ∈ ts → Lk t b c → Con ts a c
theorem Con.trans {ts : List P2} {a b c : P2} (h : Con ts a b) (k : Con ts b c) : Con ts a c := by
  induction k with
  | refl => exact h
  | snoc _ h2 h3 ih => exact .snoc ih h2 h3
theorem Con.one {ts : List P2} {a b t : P2} (h : t ∈ ts) (k : Lk t a b) : Con ts a b := .snoc (.refl a) h k
theorem Con.symm {ts : List P2} {a b : P2} (h : Con ts a b) : Con ts b a := by
  induction h with
  | refl => exact .refl _
  | snoc _ h2 h3 ih => exact (Con.one h2 h3.symm).trans ih
theorem Con.mono {ts us : List P2} {a b : P2} (h : Con ts a b) (k : ∀ t ∈ ts, t ∈ us) : Con us a b := by
  induction h with
  | refl => exact .refl _
  | snoc _ h2 h3 ih => exact .snoc ih (k _ h2) h3
/-- a tie's ends are joined otherwise -/
theorem Con.sub {ts us : List P2} {a b : P2} (h : Con ts a b) (k : ∀ t ∈ ts, Con us (0, t.1) (1, t.2)) : Con us a b := by
  induction h with
  | refl => exact .refl _
  | snoc _ h2 h3 ih =>
    refine ih.trans ?_
    rcases h3 with ⟨h3, h4⟩ | ⟨h3, h4⟩
    · rw [h3, h4]; exact k _ h2
    · rw [h3, h4]; exact (k _ h2).symm
theorem lk_goal {own t : P2} (h : own.1 = 0 ∨ own.1 = 1) (k : sideP t own.1 = own.2) : Lk t own (goalP own t) := by
  obtain ⟨a, b⟩ := own
  dsimp only at h k
  rcases h with h | h <;> subst h
  · exact .inl ⟨by rw [← k]; rfl, rfl⟩
  · exact .inr ⟨by rw [← k]; rfl, rfl⟩
theorem goal_of_lk {own t q : P2} (h : Lk t own q) : sideP t own.1 = own.2 ∧ goalP own t = q ∧ (own.1 = 0 ∨ own.1 = 1) := by
  rcases h with ⟨h, k⟩ | ⟨h, k⟩ <;> subst h k
  · exact ⟨rfl, rfl, .inl rfl⟩
  · exact ⟨rfl, rfl, .inr rfl⟩
theorem goal_ok {m n : Int} {own t : P2} (h : own.1 = 0 ∨ own.1 = 1) (r : InR m n t) : PlOk m n (goalP own t) := by
  obtain ⟨a, b⟩ := own
  dsimp only at h
  rcases h with h | h <;> subst h
  · exact .inr ⟨rfl, r.2.2.1, r.2.2.2⟩
  · exact .inl ⟨rfl, r.1, r.2.1⟩
theorem PlOk.side {m n : Int} {p : P2} (h : PlOk m n p) : p.1 = 0 ∨ p.1 = 1 := h.elim (fun z => .inl z.1) fun z => .inr z.1
def spots (m n : Int) : List P2 := (List.range m.toNat).map (fun (i : Nat) => ((0 : Int), (0 : Int) + i)) ++ (List.range n.toNat).map fun (i : Nat) => ((1 : Int), (0 : Int) + i)
theorem mem_spots {m n : Int} {p : P2} : p ∈ spots m n ↔ PlOk m n p := by
  unfold spots PlOk
  rw [List.mem_append, List.mem_map, List.mem_map]
  constructor
  · rintro (⟨i, hi, rfl⟩ | ⟨i, hi, rfl⟩)
    · have := List.mem_range.mp hi; exact .inl ⟨rfl, by dsimp only; omega, by dsimp only; omega⟩
    · have := List.mem_range.mp hi; exact .inr ⟨rfl, by dsimp only; omega, by dsimp only; omega⟩
  · obtain ⟨a, b⟩ := p
    rintro (⟨h1, h2, h3⟩ | ⟨h1, h2, h3⟩)
    · dsimp only at h1 h2 h3; exact .inl ⟨b.toNat, List.mem_range.mpr (by omega), by rw [h1]; exact Prod.ext rfl (by dsimp only; omega)⟩
    · dsimp only at h1 h2 h3; exact .inr ⟨b.toNat, List.mem_range.mpr (by omega), by rw [h1]; exact Prod.ext rfl (by dsimp only; omega)⟩
theorem spots_length {m n : Int} : (spots m n).length = m.toNat + n.toNat := by simp [spots]
theorem spots_sorted {m n : Int} : SLt (spots m n) := by
  unfold spots
  refine List.pairwise_append.mpr ⟨?_, ?_, ?_⟩
  · refine List.Pairwise.map _ (fun a b h => ?_) (List.pairwise_lt_range)
    rw [ltP_iff]; right; exact ⟨rfl, by dsimp only; omega⟩
  · refine List.Pairwise.map _ (fun a b h => ?_) (List.pairwise_lt_range)
    rw [ltP_iff]; right; exact ⟨rfl, by dsimp only; omega⟩
  · intro a ha b hb
    obtain ⟨i, _, rfl⟩ := List.mem_map.mp ha
    obtain ⟨j, _, rfl⟩ := List.mem_map.mp hb
    rw [ltP_iff]; left; show (0 : Int) < 1; decide
theorem SLt.nodup {l : List P2} (h : SLt l) : l.Nodup := h.imp fun {a b} z e => by subst e; rw [ltP_iff] at z; omega
theorem SLt.le {l : List P2} (h : SLt l) : SortedP l := h.imp fun {a b} z => leP_of_lt z
theorem slt_of {l : List P2} (h : SortedP l) (k : l.Nodup) : SLt l := by
  refine List.Pairwise.imp₂ (fun a b h k => ltP_of_le h k) h k
/-! ### ways -/
inductive PathTo (f : Fnd) : P2 → List P2 → Prop
  | nil {p : P2} : (p, none) ∈ f → PathTo f p []
  | snoc {p t o : P2} {w : List P2} : (p, some (t, o)) ∈ f → PathTo f o w → PathTo f p (w ++ [t])
theorem PathTo.mono {f g : Fnd} {p : P2} {w : List P2} (h : PathTo f p w) (k : ∀ x ∈ f, x ∈ g) : PathTo g p w := by
  induction h with
  | nil h => exact .nil (k _ h)
  | snoc h _ ih => exact .snoc (k _ h) ih
theorem look_uniq {f : Fnd} (nd : (keys f).Nodup) : ∀ {p : P2} {a b : Option (P2 × P2)}, (p, a) ∈ f → (p, b) ∈ f → a = b := by
  induction f with
  | nil => intro p a b h; cases h
  | cons x f ih =>
    intro p a b h k
    have nd' : (x.1 :: keys f).Nodup := nd
    obtain ⟨h1, h2⟩ := List.nodup_cons.mp nd'
    rcases List.mem_cons.mp h with z | z <;> rcases List.mem_cons.mp k with y | y
    · rw [← z] at y; exact ((Prod.mk.inj y).2).symm
    · subst z; exact absurd (List.mem_map.mpr ⟨_, y, rfl⟩) h1
    · subst y; exact absurd (List.mem_map.mpr ⟨_, z, rfl⟩) h1
    · exact ih h2 z y
theorem PathTo.uniq {f : Fnd} (nd : (keys f).Nodup) {p : P2} {w v : List P2} (h : PathTo f p w) : PathTo f p v → w = v := by
  induction h generalizing v with
  | nil h => intro k; cases k with
    | nil => rfl
    | snoc k _ => cases look_uniq nd h k
  | snoc h _ ih => intro k; cases k with
    | nil k => cases look_uniq nd h k
    | snoc k k2 =>
      have e := look_uniq nd h k
      have e := Option.some.inj e
      obtain ⟨e1, e2⟩ := Prod.mk.inj e
      subst e1 e2
      rw [ih k2]
def lookF : Fnd → P2 → Option (Option (P2 × P2))
  | [], _ => none
  | (k, v) :: f, p => if k = p then some v else lookF f p
theorem lookF_of {f : Fnd} (nd : (keys f).Nodup) {p : P2} {a : Option (P2 × P2)} (h : (p, a) ∈ f) : lookF f p = some a := by
  induction f with
  | nil => cases h
  | cons x f ih =>
    have nd' : (x.1 :: keys f).Nodup := nd
    obtain ⟨h1, h2⟩ := List.nodup_cons.mp nd'
    obtain ⟨k, v⟩ := x
    unfold lookF
    by_cases e : k = p
    · subst e
      rw [if_pos rfl, look_uniq nd h (List.mem_cons_self)]
    · rw [if_neg e]
      rcases List.mem_cons.mp h with z | z
      · exact absurd (Prod.mk.inj z).1.symm e
      · exact ih h2 z
def wayM (f : Fnd) : Nat → P2 → List P2
  | 0, _ => []
  | n + 1, p => match lookF f p with
    | some (some (t, o)) => wayM f n o ++ [t]
    | _ => []
theorem wayM_of {f : Fnd} (nd : (keys f).Nodup) {p : P2} {w : List P2} (h : PathTo f p w) : ∀ n, w.length ≤ n → wayM f n p = w := by
  induction h with
  | nil h => intro n hn; cases n with
    | zero => rfl
    | succ n => unfold wayM; rw [lookF_of nd h]
  | snoc h _ ih => intro n hn; cases n with
    | zero => simp at hn
    | succ n => unfold wayM; rw [lookF_of nd h]; dsimp only; rw [ih n (by simpa using hn)]
def wayOf (tree : List P2) (place other : P2) : List P2 := wayM (stepsM tree place) 1000 other
/-! ### what the walk keeps -/
structure BI (tree : List P2) (m n : Int) (place : P2) (f : Fnd) : Prop where
  nd : (keys f).Nodup
  sp : ∀ p ∈ keys f, PlOk m n p
  st : (place, none) ∈ f
  no : ∀ p, (p, none) ∈ f → p = place
  en : ∀ p t o, (p, some (t, o)) ∈ f → t ∈ tree ∧ Lk t o p
  con : ∀ p ∈ keys f, Con tree place p
  path : ∀ p ∈ keys f, ∃ w, PathTo f p w ∧ w.Nodup ∧ w.length < f.length ∧ ∀ t ∈ w, t ∈ tree ∧ (0, t.1) ∈ keys f ∧ (1, t.2) ∈ keys f
structure Lap (tree : List P2) (m n : Int) (place : P2) (f0 : Fnd) (s : Fnd × List P2) : Prop where
  bi : BI tree m n place s.1
  ks : keys s.1 = keys f0 ++ s.2
  sub : ∀ x ∈ f0, x ∈ s.1
  len : s.1.length = f0.length + s.2.length
section
variable {tree : List P2} {m n : Int} {place : P2} {f f0 : Fnd} {s : Fnd × List P2} {own t : P2}
theorem mem_keys {p : P2} {a : Option (P2 × P2)} (h : (p, a) ∈ f) : p ∈ keys f := List.mem_map.mpr ⟨_, h, rfl⟩
theorem of_keys {p : P2} (h : p ∈ keys f) : ∃ a, (p, a) ∈ f := by
  obtain ⟨⟨q, a⟩, h1, h2⟩ := List.mem_map.mp h
  dsimp only at h2
  subst h2
  exact ⟨a, h1⟩
theorem keys_mono {g : Fnd} (h : ∀ x ∈ f, x ∈ g) {p : P2} (k : p ∈ keys f) : p ∈ keys g := by
  obtain ⟨a, ha⟩ := of_keys k
  exact mem_keys (h _ ha)
theorem BI.length (b : BI tree m n place f) : f.length ≤ m.toNat + n.toNat := by
  have := b.nd.length_le_of_subset (l₂ := spots m n) fun p hp => mem_spots.mpr (b.sp p hp)
  rw [spots_length] at this
  simpa [keys] using this
theorem BI.start (h : PlOk m n place) : BI tree m n place [(place, none)] := by
  have e : ∀ p, p ∈ keys [(place, (none : Option (P2 × P2)))] → p = place := fun p hp => by simpa [keys] using hp
  refine ⟨by simp [keys], fun p hp => by rw [e p hp]; exact h, by simp, fun p hp => by simpa using hp, fun p t o hp => by simp at hp, fun p hp => by rw [e p hp]; exact .refl _, fun p hp => ?_⟩
  rw [e p hp]
  exact ⟨[], .nil (by simp), .nil, by simp, by simp⟩
theorem BI.add (b : BI tree m n place f) (ht : t ∈ tree) (hr : InR m n t) (ho : own ∈ keys f) (hs : sideP t own.1 = own.2) (hg : goalP own t ∉ keys f) : BI tree m n place (f ++ [(goalP own t, some (t, own))]) := by
  have sd := (b.sp own ho).side
  have lk := lk_goal sd hs
  have ek : keys (f ++ [(goalP own t, some (t, own))]) = keys f ++ [goalP own t] := by simp [keys]
  have sub : ∀ x ∈ f, x ∈ f ++ [(goalP own t, some (t, own))] := fun x hx => List.mem_append_left _ hx
  have me : ∀ p, p ∈ keys (f ++ [(goalP own t, some (t, own))]) → p ∈ keys f ∨ p = goalP own t := fun p hp => by
    rw [ek] at hp
    rcases List.mem_append.mp hp with z | z
    · exact .inl z
    · exact .inr (List.mem_singleton.mp z)
  have ends : (0, t.1) ∈ keys (f ++ [(goalP own t, some (t, own))]) ∧ (1, t.2) ∈ keys (f ++ [(goalP own t, some (t, own))]) := by
    rw [ek]
    rcases lk with ⟨h1, h2⟩ | ⟨h1, h2⟩
    · rw [← h2, ← h1]; exact ⟨List.mem_append_left _ ho, List.mem_append_right _ (List.mem_singleton.mpr rfl)⟩
    · rw [← h2, ← h1]; exact ⟨List.mem_append_right _ (List.mem_singleton.mpr rfl), List.mem_append_left _ ho⟩
  refine ⟨?_, fun p hp => ?_, sub _ b.st, fun p hp => ?_, fun p u o hp => ?_, fun p hp => ?_, fun p hp => ?_⟩
  · rw [ek]
    exact List.nodup_append.mpr ⟨b.nd, by simp, fun a ha c hc e => hg (by rw [List.mem_singleton.mp hc] at e; rw [← e]; exact ha)⟩
  · rcases me p hp with z | z
    · exact b.sp p z
    · rw [z]; exact goal_ok sd hr
  · rcases List.mem_append.mp hp with z | z
    · exact b.no p z
    · have z := List.mem_singleton.mp z
      cases (Prod.mk.inj z).2
  · rcases List.mem_append.mp hp with z | z
    · exact b.en p u o z
    · have z := List.mem_singleton.mp z
      obtain ⟨e1, e2⟩ := Prod.mk.inj z
      obtain ⟨e2, e3⟩ := Prod.mk.inj (Option.some.inj e2)
      subst e1 e2 e3
      exact ⟨ht, lk⟩
  · rcases me p hp with z | z
    · exact b.con p z
    · rw [z]; exact .snoc (b.con own ho) ht lk
  · rcases me p hp with z | z
    · obtain ⟨w, h1, h2, h3, h4⟩ := b.path p z
      exact ⟨w, h1.mono sub, h2, by rw [List.length_append]; omega, fun u hu => ⟨(h4 u hu).1, keys_mono sub (h4 u hu).2.1, keys_mono sub (h4 u hu).2.2⟩⟩
    · subst z
      obtain ⟨w, h1, h2, h3, h4⟩ := b.path own ho
      refine ⟨w ++ [t], .snoc (List.mem_append_right _ (List.mem_singleton.mpr rfl)) (h1.mono sub), ?_, by simp; omega, fun u hu => ?_⟩
      · refine List.nodup_append.mpr ⟨h2, by simp, fun a ha c hc e => hg ?_⟩
        rw [List.mem_singleton.mp hc] at e
        subst e
        obtain ⟨_, k1, k2⟩ := h4 a ha
        rcases lk with ⟨z1, z2⟩ | ⟨z1, z2⟩
        · rw [z2]; exact k2
        · rw [z2]; exact k1
      · rcases List.mem_append.mp hu with z | z
        · exact ⟨(h4 u z).1, keys_mono sub (h4 u z).2.1, keys_mono sub (h4 u z).2.2⟩
        · rw [List.mem_singleton.mp z]; exact ⟨ht, ends⟩
theorem Lap.start (b : BI tree m n place f) : Lap tree m n place f (f, []) := ⟨b, by simp, fun _ h => h, by simp⟩
theorem Lap.mine (l : Lap tree m n place f0 s) (ho : own ∈ keys f0) : own ∈ keys s.1 := keys_mono l.sub ho
theorem Lap.stepT (l : Lap tree m n place f0 s) (ho : own ∈ keys f0) (ht : t ∈ tree) (hr : InR m n t) : Lap tree m n place f0 (stepT own s t) := by
  unfold G.stepT
  split
  · rename_i h
    exact ⟨l.bi.add ht hr (l.mine ho) h.1 h.2, by
      have e : keys (s.1 ++ [(goalP own t, some (t, own))]) = keys s.1 ++ [goalP own t] := by simp [keys]
      rw [e, l.ks, List.append_assoc], fun x hx => List.mem_append_left _ (l.sub x hx), by
      show (s.1 ++ [(goalP own t, some (t, own))]).length = _ + (s.2 ++ [goalP own t]).length
      rw [List.length_append, List.length_append, l.len]; simp; omega⟩
  · exact l
theorem stepT_sub (x : P2 × Option (P2 × P2)) (hx : x ∈ s.1) : x ∈ (stepT own s t).1 := by
  unfold stepT
  split
  · exact List.mem_append_left _ hx
  · exact hx
theorem foldT_sub : ∀ (us : List P2) (s : Fnd × List P2) (x : P2 × Option (P2 × P2)), x ∈ s.1 → x ∈ (us.foldl (stepT own) s).1
  | [], _, _, h => h
  | u :: us, s, x, h => foldT_sub us _ x (stepT_sub x h)
theorem Lap.foldT (ho : own ∈ keys f0) : ∀ (us : List P2) (s : Fnd × List P2), (∀ t ∈ us, t ∈ tree ∧ InR m n t) → Lap tree m n place f0 s → Lap tree m n place f0 (us.foldl (G.stepT own) s)
  | [], _, _, l => l
  | u :: us, s, h, l => Lap.foldT ho us _ (fun t ht => h t (List.mem_cons_of_mem _ ht)) (l.stepT ho (h u List.mem_cons_self).1 (h u List.mem_cons_self).2)
theorem foldT_all : ∀ (us : List P2) (s : Fnd × List P2) (t q : P2), t ∈ us → Lk t own q → q ∈ keys (us.foldl (stepT own) s).1
  | [], _, _, _, h, _ => by cases h
  | u :: us, s, t, q, h, k => by
    rcases List.mem_cons.mp h with z | z
    · subst z
      obtain ⟨a, b, c⟩ := goal_of_lk k
      have : q ∈ keys (stepT own s t).1 := by
        unfold stepT
        split
        · rw [← b]; exact mem_keys (List.mem_append_right _ (List.mem_singleton.mpr rfl))
        · rename_i h
          by_cases hq : q ∈ keys s.1
          · exact hq
          · exact absurd ⟨a, by rw [b]; exact hq⟩ h
      exact keys_mono (foldT_sub us _) this
    · exact foldT_all us _ t q z k
variable (hr : ∀ t ∈ tree, InR m n t)
include hr
theorem Lap.stepO (l : Lap tree m n place f0 s) (ho : own ∈ keys f0) : Lap tree m n place f0 (stepO tree s own) := Lap.foldT ho tree s (fun t ht => ⟨ht, hr t ht⟩) l
theorem Lap.foldO : ∀ (os : List P2) (s : Fnd × List P2), (∀ o ∈ os, o ∈ keys f0) → Lap tree m n place f0 s → Lap tree m n place f0 (os.foldl (G.stepO tree) s)
  | [], _, _, l => l
  | u :: us, s, h, l => Lap.foldO us _ (fun t ht => h t (List.mem_cons_of_mem _ ht)) (l.stepO hr (h u List.mem_cons_self))
omit hr in
theorem foldO_sub : ∀ (us : List P2) (s : Fnd × List P2) (x : P2 × Option (P2 × P2)), x ∈ s.1 → x ∈ (us.foldl (stepO tree) s).1
  | [], _, _, h => h
  | u :: us, s, x, h => foldO_sub us _ x (foldT_sub tree s x h)
omit hr in
theorem foldO_all : ∀ (os : List P2) (s : Fnd × List P2) (o t q : P2), o ∈ os → t ∈ tree → Lk t o q → q ∈ keys (os.foldl (stepO tree) s).1
  | [], _, _, _, _, h, _, _ => by cases h
  | u :: us, s, o, t, q, h, ht, k => by
    rcases List.mem_cons.mp h with z | z
    · subst z
      exact keys_mono (foldO_sub us _) (foldT_all tree s t q ht k)
    · exact foldO_all us _ o t q z ht k
/-- between the laps -/
structure Mid (tree : List P2) (m n : Int) (place : P2) (k : Nat) (f : Fnd) (new : List P2) : Prop where
  bi : BI tree m n place f
  nw : ∀ p ∈ new, p ∈ keys f
  fuel : new = [] ∨ m.toNat + n.toNat + 2 ≤ k + f.length
  cl : ∀ p ∈ keys f, p ∈ new ∨ ∀ t ∈ tree, ∀ q, Lk t p q → q ∈ keys f
omit hr in
theorem Mid.start (h : PlOk m n place) (hm : m + n < 64) (hm0 : 0 ≤ m) (hn0 : 0 ≤ n) : Mid tree m n place 100 [(place, none)] [place] :=
  ⟨BI.start h, fun p hp => by simpa [keys] using hp, .inr (by simp; omega), fun p hp => .inl (by simpa [keys] using hp)⟩
theorem Mid.lap {k : Nat} {new : List P2} (h : Mid tree m n place k f new) (hn : new ≠ []) : ∃ j, k = j + 1 ∧ Lap tree m n place f (new.foldl (G.stepO tree) (f, [])) ∧ Mid tree m n place j (new.foldl (G.stepO tree) (f, [])).1 (new.foldl (G.stepO tree) (f, [])).2 ∧
    bfsM tree k f new = bfsM tree j (new.foldl (G.stepO tree) (f, [])).1 (new.foldl (G.stepO tree) (f, [])).2 := by
  have fu := h.fuel.resolve_left hn
  have hl := h.bi.length
  obtain ⟨j, rfl⟩ : ∃ j, k = j + 1 := ⟨k - 1, by omega⟩
  have l := Lap.foldO hr new (f, []) h.nw (Lap.start h.bi)
  refine ⟨j, rfl, l, ⟨l.bi, fun p hp => by rw [l.ks]; exact List.mem_append_right _ hp, ?_, fun p hp => ?_⟩, ?_⟩
  · by_cases e : (new.foldl (G.stepO tree) (f, [])).2 = []
    · exact .inl e
    · right
      have := l.len
      have : 0 < (new.foldl (G.stepO tree) (f, [])).2.length := List.length_pos_iff.mpr e
      omega
  · rw [l.ks] at hp
    rcases List.mem_append.mp hp with z | z
    · right
      intro t ht q hq
      rcases h.cl p z with y | y
      · exact foldO_all new _ p t q y ht hq
      · exact l.mine (y t ht q hq)
    · exact .inl z
  · cases new with
    | nil => exact absurd rfl hn
    | cons o os => rfl
omit hr in
theorem bfsM_nil {k : Nat} : bfsM tree k f [] = f := by cases k <;> rfl
theorem Mid.fin (k : Nat) : ∀ (f : Fnd) (new : List P2), Mid tree m n place k f new → Mid tree m n place 0 (bfsM tree k f new) [] ∧ ∀ x ∈ f, x ∈ bfsM tree k f new := by
  induction k with
  | zero => intro f new h; cases new with
    | nil => exact ⟨⟨h.bi, (fun _ z => nomatch z), .inl rfl, h.cl⟩, fun _ z => z⟩
    | cons o os =>
      obtain ⟨j, hj, _⟩ := h.lap hr (fun z => nomatch z)
      cases hj
  | succ k ih => intro f new h; cases new with
    | nil => rw [bfsM_nil]; exact ⟨⟨h.bi, (fun _ z => nomatch z), .inl rfl, h.cl⟩, fun _ z => z⟩
    | cons o os =>
      obtain ⟨j, hj, l, h', e⟩ := h.lap hr (fun z => nomatch z)
      cases hj
      rw [e]
      obtain ⟨h2, h3⟩ := ih _ _ h'
      exact ⟨h2, fun x hx => h3 x (l.sub x hx)⟩
end
/-! ### the whole walk -/
structure Wd (tree : List P2) (m n : Int) (place : P2) : Prop where
  mn : m + n < 64
  m0 : 0 ≤ m
  n0 : 0 ≤ n
  r : ∀ t ∈ tree, InR m n t
  z : tree.length ≤ 1000
  p : PlOk m n place
section
variable {tree : List P2} {m n : Int} {place : P2}
theorem Wd.fin (h : Wd tree m n place) : Mid tree m n place 0 (stepsM tree place) [] := (Mid.fin h.r 100 _ _ (Mid.start h.p h.mn h.m0 h.n0)).1
theorem Wd.bi (h : Wd tree m n place) : BI tree m n place (stepsM tree place) := h.fin.bi
theorem Wd.mem (h : Wd tree m n place) {p : P2} : p ∈ keys (stepsM tree place) ↔ Con tree place p := by
  refine ⟨h.bi.con p, fun c => ?_⟩
  induction c with
  | refl => exact mem_keys h.bi.st
  | snoc _ ht lk ih => exact ((h.fin.cl _ ih).resolve_left (fun z => nomatch z)) _ ht _ lk
theorem Wd.wayOf (h : Wd tree m n place) {p : P2} {w : List P2} (k : PathTo (stepsM tree place) p w) : wayOf tree place p = w := by
  have hp : p ∈ keys (stepsM tree place) := by
    cases k with
    | nil z => exact mem_keys z
    | snoc z _ => exact mem_keys z
  obtain ⟨v, h1, h2, h3, _⟩ := h.bi.path p hp
  have e := k.uniq h.bi.nd h1
  subst e
  refine wayM_of h.bi.nd k 1000 ?_
  have := h.bi.length
  have := h.mn
  have := h.m0
  have := h.n0
  omega
theorem Wd.path (h : Wd tree m n place) {p : P2} (c : Con tree place p) : PathTo (stepsM tree place) p (G.wayOf tree place p) ∧ (G.wayOf tree place p).Nodup ∧ (∀ t ∈ G.wayOf tree place p, t ∈ tree) ∧ (G.wayOf tree place p).length < 64 := by
  obtain ⟨v, h1, h2, h3, h4⟩ := h.bi.path p (h.mem.mpr c)
  rw [h.wayOf h1]
  have := h.bi.length
  have := h.mn
  have := h.m0
  have := h.n0
  exact ⟨h1, h2, fun t ht => (h4 t ht).1, by omega⟩
end
end G

set_option Elab.async false
set_option linter.all false
set_option maxRecDepth 100000
set_option maxHeartbeats 4000000
/-! Dat7: an answer that is a dict; small laws on dicts. -/
namespace G
open PySem L2
def spFt {α : Type} (shape : α → List D) (pre : α → Prop) (kvs : α → List (P2 × D)) : Sp := fun vs H Q _ => ∃ I x, Same I H ∧ DdAll I vs (shape x) ∧ pre x ∧ ∀ v I' H', Gr T0 I H I' H' → (∃ p ks, v = .ref p ∧ I' p = some (.dT ks) ∧ KvOk I' ks (kvs x)) → Q v H'
section
variable {B : Bs} {Γ : List En} {te : TE} {tr tA : TA} {x d : D} {ds : List D} {K : PySem.W.Frag}
theorem ev_callFt {α : Type} {shape : α → List D} {pre : α → Prop} {kvs : α → List (P2 × D)} {E : XK} (h : EvD B tA Γ ds) (x : α) (e : ds = shape x) (hp : pre x) : EvE B (tCall (spFt shape pre kvs) [] E tA) Γ (.ft (kvs x)) := fun σ ts H s Q q =>
  h σ ts H s _ fun vs H1 hl s1 => by
    rw [List.length_map] at hl
    obtain ⟨h0, I, g, k, e'⟩ := s1.args hl
    show spFt shape pre kvs (vs ++ []) H1 Q E
    rw [List.append_nil]
    exact ⟨I, x, g.s, e ▸ k, hp, fun v I' H' g' k' => q v H' (Stt.finF h0 g e' g' k')⟩
end
section
variable {P : Program} {w : World} {K : PySem.W.Frag} {mg : Str → Option Value} {base : Heap} {x : Str} {st : Stmt} {f : Addr} {fd : FuncData} {N ps : List Str} {k : Nat}
theorem fnFt {α : Type} {shape : α → List D} {pre : α → Prop} {kvs : α → List (P2 × D)} (F : Fun K x x st f fd) (S : FnScope N ps (defScope st)) (hn : ∀ x, (shape x).length = ps.length) (hN : ps.length ≤ N.length)
    (body : ∀ (cdv : Value) (A : Around) (outer : List PySem.Env) (s : Shared) (H : Hp) (E : XK), Room k (A.deeper (PyProof.Rows.envOfC x (defScope st) s.heap.objs.size f cdv)) →
      ∃ t, PSs (cxOf CX0 P w K mg base N x (defScope st) f cdv A outer s H E).nox (defBody st) t ∧
        ∀ (B : Bs) x, pre x → HT B t ((shape x).map En.d ++ List.replicate (N.length - (shape x).length) En.un) (fun _ => False) (fun _ e => e = .ft (kvs x))) :
    FnOk P w K mg base CX0 (k + 1) f fd ps (spFt shape pre kvs) := by
  refine F.ok S (fun vs H Q E ⟨I, x, sI, hd, hp, q⟩ => by rw [hd.length]; exact hn x) fun cdv A outer s H vs Q E hr ⟨I, x, sI, hd, hp, q⟩ => ?_
  obtain ⟨t, ht, hb⟩ := body cdv A outer s H E hr
  refine ⟨t, ht, ?_⟩
  have s0 := stt_start (K := K) N sI hd (by rw [hn x]; exact hN)
  refine hb _ x hp _ [] H _ s0 (fun Γ' σ' H' hN s' => hN.elim) fun Γ' e σ' v H' ed s' => ?_
  subst ed
  obtain ⟨hl, I', g, e⟩ := s'
  obtain ⟨v', hv, k⟩ := e.ok _ List.mem_cons_self (fun z => nomatch z)
  have hv : v = v' := Option.some.inj hv
  subst hv
  exact q v I' H' g k
end
theorem hasD_fnd (f : Fnd) (p : P2) : hasD (fndD f) p = decide (p ∈ keys f) := by
  unfold hasD fndD keys
  induction f with
  | nil => simp
  | cons x f ih =>
    rw [List.map_cons, List.any_cons, ih]
    by_cases h : x.1 = p
    · simp [h]
    · have h' : ¬ p = x.1 := fun z => h z.symm
      simp only [h, decide_false, Bool.false_or, List.map_cons, List.mem_cons, h', false_or]
theorem lookD_fnd (f : Fnd) (p : P2) : lookD (fndD f) p = (lookF f p).map valD := by
  unfold lookD fndD
  induction f with
  | nil => rfl
  | cons x f ih =>
    obtain ⟨k, v⟩ := x
    rw [List.map_cons, List.find?_cons]
    unfold lookF
    by_cases h : k = p
    · simp [h]
    · simp only [h, decide_false, if_false]; exact ih
theorem putD_new {kvs : List (P2 × D)} {k : P2} {y : D} (h : hasD kvs k = false) : putD kvs k y = kvs ++ [(k, y)] := by unfold putD; rw [if_neg (by rw [h]; exact Bool.false_ne_true)]
theorem fndD_snoc (f : Fnd) (g t o : P2) : fndD (f ++ [(g, some (t, o))]) = fndD f ++ [(g, .tuple [dP t, dP o])] := by simp [fndD, valD]
theorem fndD_keys (f : Fnd) : (fndD f).map (·.1) = keys f := by unfold fndD keys; rw [List.map_map]; rfl
theorem fndD_length (f : Fnd) : (fndD f).length = f.length := List.length_map _
end G

set_option Elab.async false
set_option linter.all false
set_option maxRecDepth 100000
set_option maxHeartbeats 4000000
namespace G
open PySem L2
abbrev s_steps_from : Stmt := top 30
theorem sc_steps_from : FnScope ["tree", "place", "found", "newest", "later", "own", "tie", "goal"] ["tree", "place"] (defScope s_steps_from) := ⟨rfl, rfl, rfl, by decide +kernel, rfl, by decide +kernel, by decide +kernel⟩
abbrev s_way_in : Stmt := top 31
theorem sc_way_in : FnScope ["tree", "place", "other", "steps", "row", "own", "tie"] ["tree", "place", "other"] (defScope s_way_in) := ⟨rfl, rfl, rfl, by decide +kernel, rfl, by decide +kernel, by decide +kernel⟩
abbrev s_part_in : Stmt := top 32
theorem sc_part_in : FnScope ["web", "tree", "tie", "side", "rest", "own"] ["web", "tree", "tie", "side"] (defScope s_part_in) := ⟨rfl, rfl, rfl, by decide +kernel, rfl, by decide +kernel, by decide +kernel⟩
abbrev s_is_tree : Stmt := top 33
theorem sc_is_tree : FnScope ["web", "thing"] ["web", "thing"] (defScope s_is_tree) := ⟨rfl, rfl, rfl, by decide +kernel, rfl, by decide +kernel, by decide +kernel⟩
abbrev s_way : Stmt := top 34
theorem sc_way : FnScope ["web", "tree", "place", "other", "own", "told", "near", "far"] ["web", "tree", "place", "other"] (defScope s_way) := ⟨rfl, rfl, rfl, by decide +kernel, rfl, by decide +kernel, by decide +kernel⟩
abbrev s_ends_of : Stmt := top 38
theorem sc_ends_of : FnScope ["web", "tree", "own", "told", "places", "side", "number", "place"] ["web", "tree"] (defScope s_ends_of) := ⟨rfl, rfl, rfl, by decide +kernel, rfl, by decide +kernel, by decide +kernel⟩
theorem ix0 {K : PySem.W.Frag} {a : D} {ds : List D} : RO (rIxT K) (.tuple (a :: ds)) (.int 0) a := ro_ixT (by decide) rfl
theorem ix1 {K : PySem.W.Frag} {a b : D} {ds : List D} : RO (rIxT K) (.tuple (a :: b :: ds)) (.int 1) b := ro_ixT (by decide) rfl
theorem ix2 {K : PySem.W.Frag} {a b c : D} {ds : List D} : RO (rIxT K) (.tuple (a :: b :: c :: ds)) (.int 2) c := ro_ixT (by decide) rfl
theorem flip_side {s : Int} (h : s = 0 ∨ s = 1) : 1 - s = 0 ∨ 1 - s = 1 := by omega
theorem BdP_of {m n : Int} {p : P2} (h : PlOk m n p) (k : m + n < 64) (hm : 0 ≤ m) (hn : 0 ≤ n) : BdP p := by
  unfold BdP
  rcases h with ⟨a, b, c⟩ | ⟨a, b, c⟩ <;> omega
section
variable {P : Program} {w : World} {K : PySem.W.Frag} {mg : Str → Option Value} {base : Heap} (B0 : Bi mg)
include B0
abbrev sp_steps_from : Sp := spFt (fun x : (Int × Int) × List P2 × P2 => [dT x.2.1, dP x.2.2]) (fun x => Wd x.2.1 x.1.1 x.1.2 x.2.2) fun x => fndD (stepsM x.2.1 x.2.2)
theorem ok_steps_from (d : Dfx K mg "steps_from" s_steps_from ["tree", "place"]) : Cal P w K mg base CX0 1 "steps_from" s_steps_from ["tree", "place"] sp_steps_from := d.cal fun f fd F => by
  refine fnFt F sc_steps_from (fun _ => rfl) (by decide) fun cdv A outer s H E hr => ?_
  have hu64 := hr.units
  have hu65 := hu65_of hr
  have hu := hu_of hr
  have hu0 := hr.units0
  have nd := sc_steps_from.nd
  refine ⟨_, (pss_cons (ps_par (i := 2) (j := 3) rfl nd rfl rfl (by decide) rfl rfl (pa_cons (pe_disp1T hu (pv 1) pe_non) (pa_cons (pe_lst (pa_cons (pv 1) pa_nil)) pa_nil)) rfl)
    (pss_cons (ps_while PassesOwn.never (pt_cmpR (k_neD K rfl hu64) (pv 3) (pe_lst pa_nil) (nomark _)) (pss_cons (ps_set (i := 4) nd rfl (Or.inl rfl) (pe_lst pa_nil))
    (pss_cons (ps_for PassesOwn.never rfl (k_iL K rfl (pv 3)) (pg_name (i := 5) nd rfl (by first | exact Or.inl rfl | exact Or.inr rfl)) (pss_one (ps_for PassesOwn.never rfl (k_iT K rfl (pv 0)) (pg_name (i := 6) nd rfl (by first | exact Or.inl rfl | exact Or.inr rfl)) (pss_cons (ps_set (i := 7) nd rfl (Or.inl rfl) (pe_tup (pa_cons (pe_op op_sub pe_int (pe_ix (k_ixT K rfl) (pv 5) pe_int (fun _ _ => rfl))) (pa_cons (pe_ix (k_ixT K rfl) (pv 6) (pe_op op_sub pe_int (pe_ix (k_ixT K rfl) (pv 5) pe_int (fun _ _ => rfl))) (fun _ _ => rfl)) pa_nil))))
    (pss_one (ps_if (PW.pt (pw_and (pt_cmpR (k_eqD K rfl hu64) (pe_ix (k_ixT K rfl) (pv 6) (pe_ix (k_ixT K rfl) (pv 5) pe_int (fun _ _ => rfl)) (fun _ _ => rfl)) (pe_ix (k_ixT K rfl) (pv 5) pe_int (fun _ _ => rfl)) (nomark _)) (pw_and1 (pt_cmp (pc_dnotin hu (pv 7) (pv 2)))))) (pss_cons (ps_dput hu (pv 2) (pv 7) (pe_tup (pa_cons (pv 6) (pa_cons (pv 5) pa_nil))) rfl)
    (pss_one (ps_expr (pe_bm PySem.F.plainAttrs_list PySem.F.slot_list_append PySem.F.type_list_append mt_append (pv 4) (pa_cons (pv 7) pa_nil))))) pss_nil))))))
    (pss_one (ps_set (i := 3) nd rfl (Or.inl rfl) (pv 4))))))
    (pss_one (ps_ret (pv 2))))), ?_⟩
  rintro B ⟨⟨m, n⟩, tree, place⟩ h
  dsimp only at h
  refine ht_seq (ht_par (ea_cons (ev_disp (k := place) (ev_var rfl) ev_non) (ea_cons (ev_lstD (ed_cons (ev_var rfl) ed_nil) (by show 1 ≤ 100000; decide)) ea_nil)) ?_)
  refine ht_seq (ht_while (fun k Γ => ∃ f new e4 e5 e6 e7, Γ = [.d (dT tree), .d (dP place), .m (.t (fndD f)), .d (dL new), e4, e5, e6, e7] ∧ Mid tree m n place k f new ∧ bfsM tree k f new = stepsM tree place) 100 ⟨_, _, _, _, _, _, rfl, Mid.start h.p h.mn h.m0 h.n0, rfl⟩ ?_)
  rintro k Γ ⟨f, new, e4, e5, e6, e7, rfl, hm, he⟩
  refine ⟨decide (new ≠ []), eb_test ((ev_op (ev_var rfl) (ev_lstD ed_nil (by show 0 ≤ 100000; decide)) (ro_neD (shaped_pairsL new) (shaped_pairsL []))).is ?_), fun hb => ?_, fun hb => ?_⟩
  · have := eqv_pairsL new []
    simp only [List.map_nil] at this
    rw [this]; simp
  · have hb := of_decide_eq_true hb
    obtain ⟨j, rfl, lap, hm', e⟩ := hm.lap h.r hb
    have bl : ∀ {s}, Lap tree m n place f s → s.1.length < 64 := fun {s} l => by have := l.bi.length; have := h.mn; have := h.m0; have := h.n0; omega
    refine ht_seq (ht_set (ev_lstM (ds := []) ea_nil) ?_)
    refine ht_seq (ht_for (fun i Γ => ∃ e5 e6 e7, Γ = [.d (dT tree), .d (dP place), .m (.t (fndD ((new.take i).foldl (stepO tree) (f, [])).1)), .d (dL new), .m (.l (((new.take i).foldl (stepO tree) (f, [])).2.map dP)), e5, e6, e7]) (ei_list (ev_var rfl)) ⟨_, _, _, rfl⟩ ?_ ?_)
    · rintro i x Γ hx ⟨e5, e6, e7, rfl⟩
      rw [List.getElem?_map] at hx
      obtain ⟨own, hown, rfl⟩ := Option.map_eq_some_iff.mp hx
      have ho := hm.nw own (List.mem_of_getElem? hown)
      have sd := (hm.bi.sp own ho).side
      have et : new.take (i + 1) = new.take i ++ [own] := by rw [List.take_add_one, hown]; rfl
      have l0 := Lap.foldO h.r (new.take i) (f, []) (fun o z => hm.nw o (List.mem_of_mem_take z)) (Lap.start hm.bi)
      refine ⟨_, _, eg_name, ?_⟩
      refine ht_for (fun i2 Γ => ∃ e6 e7, Γ = [.d (dT tree), .d (dP place), .m (.t (fndD ((tree.take i2).foldl (stepT own) ((new.take i).foldl (stepO tree) (f, []))).1)), .d (dL new), .m (.l (((tree.take i2).foldl (stepT own) ((new.take i).foldl (stepO tree) (f, []))).2.map dP)), .d (dP own), e6, e7]) (ei_tup (ev_var rfl)) ⟨_, _, rfl⟩ ?_ ?_
      · rintro i2 x Γ hx ⟨e6, e7, rfl⟩
        rw [List.getElem?_map] at hx
        obtain ⟨t, ht, rfl⟩ := Option.map_eq_some_iff.mp hx
        have htt := List.mem_of_getElem? ht
        have et2 : tree.take (i2 + 1) = tree.take i2 ++ [t] := by rw [List.take_add_one, ht]; rfl
        have l1 := Lap.foldT ho (tree.take i2) _ (fun u z => ⟨List.mem_of_mem_take z, h.r u (List.mem_of_mem_take z)⟩) l0
        refine ⟨_, _, eg_name, ?_⟩
        rw [et2, List.foldl_append]
        show HT _ _ _ (fun Γ => ∃ e6 e7, Γ = [.d (dT tree), .d (dP place), .m (.t (fndD (stepT own ((tree.take i2).foldl (stepT own) ((new.take i).foldl (stepO tree) (f, []))) t).1)), .d (dL new), .m (.l ((stepT own ((tree.take i2).foldl (stepT own) ((new.take i).foldl (stepO tree) (f, []))) t).2.map dP)), .d (dP own), e6, e7]) _
        generalize (tree.take i2).foldl (stepT own) ((new.take i).foldl (stepO tree) (f, [])) = s at l1 ⊢
        refine ht_seq (ht_set (e := .d (dP (goalP own t))) (ev_tupD (ed_cons (ev_op ev_int (ev_op (ev_var rfl) ev_int ix0) ro_II) (ed_cons (ev_op (ev_var rfl) (ev_op ev_int (ev_op (ev_var rfl) ev_int ix0) ro_II) (ro_ixT (side_nn (flip_side sd)) (sideP_get (flip_side sd)))) ed_nil)) (by show 2 ≤ 100000; decide)) ?_)
        refine ht_if (b := decide (sideP t own.1 = own.2) && !decide (goalP own t ∈ keys s.1)) (eb_and (eb_test ((ev_op (ev_op (ev_var rfl) (ev_op (ev_var rfl) ev_int ix0) (ro_ixT (side_nn sd) (sideP_get sd))) (ev_op (ev_var rfl) ev_int ix1) (ro_eqD (shaped_int _) (shaped_int _))).is (by rw [eqv_int]))) fun _ => eb_B ((ev_dnotin (k := goalP own t) (ev_var rfl) rfl).is (by rw [hasD_fnd]))) (fun hb => ?_) fun hb => ?_
        · rw [Bool.and_eq_true, Bool.not_eq_true'] at hb
          obtain ⟨h1, h2⟩ := hb
          have est : stepT own s t = (s.1 ++ [(goalP own t, some (t, own))], s.2 ++ [goalP own t]) := by
            unfold stepT
            rw [if_pos ⟨of_decide_eq_true h1, of_decide_eq_false h2⟩]
          refine ht_seq (ht_dput rfl (ev_tupD (ed_cons (ev_var rfl) (ed_cons (ev_var rfl) ed_nil)) (by show 2 ≤ 100000; decide)) (ev_var rfl) (by rw [fndD_length]; have := bl l1; omega) ?_)
          refine ht_app rfl (ev_var rfl) (by rw [List.length_map]; have := l1.len; have := bl l1; omega) ⟨.d (dP t), .d (dP (goalP own t)), ?_⟩
          rw [est, fndD_snoc, putD_new (by rw [hasD_fnd]; exact h2), List.map_append]
          rfl
        · have est : stepT own s t = s := by
            unfold stepT
            rw [if_neg]
            rintro ⟨a, b⟩
            rw [decide_eq_true a, decide_eq_false b] at hb
            cases hb
          rw [est]
          exact ht_next ⟨_, _, rfl⟩
      · rintro Γ ⟨e6, e7, rfl⟩
        refine ⟨.d (dP own), e6, e7, ?_⟩
        rw [List.length_map, List.take_length, et, List.foldl_append]
        rfl
    · rintro Γ ⟨e5, e6, e7, rfl⟩
      rw [List.length_map, List.take_length]
      refine ht_frz (i := 4) rfl (ht_set (ev_var rfl) ⟨j, Nat.lt_succ_self j, _, _, _, _, _, _, rfl, hm', ?_⟩)
      rw [← e, he]
  · have hb : new = [] := by
      by_cases z : new = []
      · exact z
      · exact absurd (decide_eq_true z) (by rw [hb]; exact Bool.false_ne_true)
    subst hb
    rw [bfsM_nil] at he
    subst he
    exact ht_frzT (i := 2) rfl (ht_ret (ev_varF rfl) rfl)
end
end G

set_option Elab.async false
set_option linter.all false
set_option maxRecDepth 100000
set_option maxHeartbeats 4000000
namespace G
open PySem L2
theorem OkT.wd {m n : Int} {ts us : List P2} {p : P2} (h : OkT m n ts us) (k : PlOk m n p) : Wd us m n p := ⟨h.mn, h.m0, h.n0, h.r, by have := h.l; have := h.mn; omega, k⟩
def partM (us : List P2) (tie : P2) (side : Int) : List P2 := sortP (keys (stepsM (us.filter fun t => !decide (t = tie)) (side, sideP tie side)))
def endsM (us : List P2) : List P2 := (sortP (keys (stepsM us (0, 0)))).filter fun p => decide ((us.filter fun t => decide (sideP t p.1 = p.2)).length = 1)
section
variable {P : Program} {w : World} {K : PySem.W.Frag} {mg : Str → Option Value} {base : Heap} (B0 : Bi mg)
include B0
abbrev sp_way_in : Sp := spR (fun x : (Int × Int) × List P2 × P2 × P2 => [dT x.2.1, dP x.2.2.1, dP x.2.2.2]) (fun x => Wd x.2.1 x.1.1 x.1.2 x.2.2.1 ∧ Con x.2.1 x.2.2.1 x.2.2.2) fun x => dT (wayOf x.2.1 x.2.2.1 x.2.2.2)
theorem ok_way_in (c_steps_from : Cal P w K mg base CX0 1 "steps_from" s_steps_from ["tree", "place"] sp_steps_from) (d : Dfx K mg "way_in" s_way_in ["tree", "place", "other"]) : Cal P w K mg base CX0 2 "way_in" s_way_in ["tree", "place", "other"] sp_way_in := d.cal fun f fd F => by
  refine fnR F sc_way_in (fun _ => rfl) (by decide) fun cdv A outer s H E hr => ?_
  have hu64 := hr.units
  have hu65 := hu65_of hr
  have hu := hu_of hr
  have hu0 := hr.units0
  obtain ⟨f_steps_from, fd_steps_from, F_steps_from, m_steps_from, b_steps_from, ok_steps_from⟩ := c_steps_from
  have nd := sc_way_in.nd
  refine ⟨_, (pss_cons (ps_par3 (i := 3) (j := 4) (l := 5) rfl nd rfl rfl rfl (by decide) (by decide) (by decide) rfl rfl rfl (pa_cons (pe_call ok_steps_from (hr.mono (by decide)) rfl m_steps_from F_steps_from.kp b_steps_from .nil pass0 (pa_cons (pv 0) (pa_cons (pv 1) pa_nil))) (pa_cons (pe_lst pa_nil) (pa_cons (pv 2) pa_nil))) rfl)
    (pss_cons (ps_while PassesOwn.never (pt_cmpR op_notN (pe_dget hu (pv 3) (pv 5) (fun _ _ => rfl)) pe_non (nomark _)) (pss_cons (ps_asg (pe_dget hu (pv 3) (pv 5) (fun _ _ => rfl)) (k_tup (n := 2) K rfl rfl (pgs_cons (pg_name (i := 6) nd rfl (by first | exact Or.inl rfl | exact Or.inr rfl)) (pgs_cons (pg_name (i := 5) nd rfl (by first | exact Or.inl rfl | exact Or.inr rfl)) pgs_nil))))
    (pss_one (ps_expr (pe_bm PySem.F.plainAttrs_list PySem.F.slot_list_append PySem.F.type_list_append mt_append (pv 4) (pa_cons (pv 6) pa_nil))))))
    (pss_one (ps_ret (pe_callTy (k_tuple K rfl) rfl B0.tuple (by decide +kernel) (pa_cons (pe_revL (pv 4)) pa_nil)))))), ?_⟩
  rintro B ⟨⟨m, n⟩, tree, place, other⟩ ⟨h, hc⟩
  dsimp only at h hc
  obtain ⟨h1, h2, h3, h4⟩ := h.path hc
  have nd2 := h.bi.nd
  refine ht_seq (ht_par3 (ea_cons (ev_callFt (ed_cons (ev_var rfl) (ed_cons (ev_var rfl) ed_nil)) ((m, n), tree, place) rfl h) (ea_cons (ev_lstM (ds := []) ea_nil) (ea_cons (ev_var rfl) ea_nil))) ?_)
  refine ht_seq (ht_while (fun k Γ => ∃ own u v e6, Γ = [.d (dT tree), .d (dP place), .d (dP other), .ft (fndD (stepsM tree place)), .m (.l (v.map dP)), .d (dP own), e6] ∧ PathTo (stepsM tree place) own u ∧ wayOf tree place other = u ++ v.reverse ∧ u.length = k) (wayOf tree place other).length ⟨other, _, [], _, rfl, h1, by simp, rfl⟩ ?_)
  rintro k Γ ⟨own, u, v, e6, rfl, hp, he, hk⟩
  cases hp with
  | nil hm =>
    have hy : lookD (fndD (stepsM tree place)) own = some .none := by rw [lookD_fnd, lookF_of nd2 hm]; rfl
    refine ⟨false, eb_test ((ev_op (ev_dget rfl (ev_var rfl) hy) ev_non ro_notN).is rfl), (fun z => nomatch z), fun _ => ?_⟩
    refine ht_frz (i := 4) rfl (ht_ret' (ev_cbD (ed_cons (ev_revL (ev_var rfl)) ed_nil) rc_tupL) ?_ rfl)
    rw [he, ← List.map_reverse]; rfl
  | @snoc _ t o u' hm hp =>
    have hy : lookD (fndD (stepsM tree place)) own = some (.tuple [dP t, dP o]) := by rw [lookD_fnd, lookF_of nd2 hm]; rfl
    refine ⟨true, eb_test ((ev_op (ev_dget rfl (ev_var rfl) hy) ev_non ro_notN).is rfl), (fun _ => ?_), fun z => nomatch z⟩
    refine ht_seq (ht_asg (ev_dget rfl (ev_var rfl) hy) eg_tup2 ?_)
    have hl : v.length < 64 := by rw [he] at h4; simp at h4; omega
    refine ht_app rfl (ev_var rfl) (by rw [List.length_map]; omega) ⟨u'.length, by rw [← hk]; simp, o, u', v ++ [t], .d (dP t), ?_, hp, ?_, rfl⟩
    · rw [List.map_append]; rfl
    · rw [he]; simp
abbrev sp_part_in : Sp := spR (fun x : (Int × Int) × D × List P2 × P2 × Int => [x.2.1, dT x.2.2.1, dP x.2.2.2.1, .int x.2.2.2.2]) (fun x => (x.2.2.2.2 = 0 ∨ x.2.2.2.2 = 1) ∧ x.2.2.1.length ≤ 1000 ∧ Wd (x.2.2.1.filter fun t => !decide (t = x.2.2.2.1)) x.1.1 x.1.2 (x.2.2.2.2, sideP x.2.2.2.1 x.2.2.2.2)) fun x => dT (partM x.2.2.1 x.2.2.2.1 x.2.2.2.2)
theorem keys_bd {tree : List P2} {m n : Int} {place : P2} (h : Wd tree m n place) : (fndD (stepsM tree place)).length < 64 ∧ ∀ p ∈ fndD (stepsM tree place), BdP p.1 := by
  have := h.bi.length
  have := h.mn
  have := h.m0
  have := h.n0
  refine ⟨by rw [fndD_length]; omega, fun p hp => ?_⟩
  obtain ⟨q, hq, rfl⟩ := List.mem_map.mp hp
  exact BdP_of (h.bi.sp q.1 (List.mem_map.mpr ⟨q, hq, rfl⟩)) h.mn h.m0 h.n0
theorem ok_part_in (c_steps_from : Cal P w K mg base CX0 1 "steps_from" s_steps_from ["tree", "place"] sp_steps_from) (d : Dfx K mg "part_in" s_part_in ["web", "tree", "tie", "side"]) : Cal P w K mg base CX0 2 "part_in" s_part_in ["web", "tree", "tie", "side"] sp_part_in := d.cal fun f fd F => by
  refine fnR F sc_part_in (fun _ => rfl) (by decide) fun cdv A outer s H E hr => ?_
  have hu64 := hr.units
  have hu65 := hu65_of hr
  have hu := hu_of hr
  have hu0 := hr.units0
  obtain ⟨f_steps_from, fd_steps_from, F_steps_from, m_steps_from, b_steps_from, ok_steps_from⟩ := c_steps_from
  have nd := sc_part_in.nd
  refine ⟨_, (pss_cons (ps_set (i := 4) nd rfl (Or.inl rfl) (pe_callTy (k_tuple K rfl) rfl B0.tuple (by decide +kernel) (pa_cons (pe_lc (own := [("own", 5)]) rfl nd (k_iT K rfl (pv 1)) (blkOk_by (N := ["web", "tree", "tie", "side", "rest", "own"]) (sc := defScope s_part_in) (own := [("own", 5)]) (by decide +kernel)) (fun _ _ _ _ _ => (pg_name (i := 5) nd rfl (by first | exact Or.inl rfl | exact Or.inr rfl))) (fun _ _ _ _ _ => pts_one (pt_cmpR (k_neD K rfl hu64) (pv 5) (pv 2) (nomark _))) (fun _ _ _ _ _ => (pv 5))) pa_nil)))
    (pss_one (ps_ret (pe_callTy (k_tuple K rfl) rfl B0.tuple (by decide +kernel) (pa_cons (pe_callB (cr_sortedDT (n := 2) (B := 64) (by decide) rfl) rfl B0.sorted (by decide +kernel) (pa_cons (pe_call ok_steps_from (hr.mono (by decide)) rfl m_steps_from F_steps_from.kp b_steps_from .nil pass0 (pa_cons (pv 4) (pa_cons (pe_tup (pa_cons (pv 3) (pa_cons (pe_ix (k_ixT K rfl) (pv 2) (pv 3) (fun _ _ => rfl)) pa_nil))) pa_nil))) pa_nil)) pa_nil))))), ?_⟩
  rintro B ⟨⟨m, n⟩, d0, us, tie, side⟩ ⟨h1, h2, h3⟩
  dsimp only at h1 h2 h3
  refine ht_seq (ht_set' (e := .d (dT (us.filter fun t => !decide (t = tie)))) (ev_cbD (ed_cons (ev_lcF (xs := us) (c := dP) (fun t => !decide (t = tie)) dP (ei_tup (ev_var rfl)) (hv1 rfl) hj1 (by clear hu64 hu65 hu hu0; omega) fun t ht => ⟨_, eg_name, eb_test ((ev_op (ev_var rfl) (ev_var rfl) (ro_neD (shaped_pair t) (shaped_pair tie))).is (by rw [eqv_pair])), fun _ => ev_var rfl⟩) ed_nil) rc_tupL) rfl ?_)
  have hb := keys_bd B0 h3
  refine ht_ret' (ev_cbD (ed_cons (ev_sortedD (ev_callFt (ed_cons (ev_var rfl) (ed_cons (ev_tupD (ds := [.int side, .int (sideP tie side)]) (ed_cons (ev_var rfl) (ed_cons (ev_op (ev_var rfl) (ev_var rfl) (ro_ixT (side_nn h1) (sideP_get h1))) ed_nil)) (by show 2 ≤ 100000; decide)) ed_nil)) ((m, n), us.filter (fun t => !decide (t = tie)), (side, sideP tie side)) rfl h3) hb.1 hb.2) ed_nil) rc_tupL) ?_ rfl
  rw [fndD_keys]; rfl
abbrev sp_is_tree : Sp := spR (fun x : (Int × Int × List P2) × D × List P2 => [x.2.1, dT x.2.2]) (fun x => okD 4 x.2.1 ∧ tupD x.2.1 = dN x.1.1 x.1.2.1 x.1.2.2 ∧ OkW x.1.1 x.1.2.1 x.1.2.2 ∧ OkT x.1.1 x.1.2.1 x.1.2.2 x.2.2) fun x => .bool true
theorem ok_is_tree (c_is_tree_in : Cal P w K mg base CX0 4 "is_tree_in" s_is_tree_in ["web", "thing"] sp_is_tree_in) (c_sure_web : Cal P w K mg base CX0 6 "sure_web" s_sure_web ["web"] sp_sure_web) (d : Dfx K mg "is_tree" s_is_tree ["web", "thing"]) : Cal P w K mg base CX0 7 "is_tree" s_is_tree ["web", "thing"] sp_is_tree := d.cal fun f fd F => by
  refine fnR F sc_is_tree (fun _ => rfl) (by decide) fun cdv A outer s H E hr => ?_
  have hu64 := hr.units
  have hu65 := hu65_of hr
  have hu := hu_of hr
  have hu0 := hr.units0
  obtain ⟨f_is_tree_in, fd_is_tree_in, F_is_tree_in, m_is_tree_in, b_is_tree_in, ok_is_tree_in⟩ := c_is_tree_in
  obtain ⟨f_sure_web, fd_sure_web, F_sure_web, m_sure_web, b_sure_web, ok_sure_web⟩ := c_sure_web
  have nd := sc_is_tree.nd
  refine ⟨_, (pss_one (ps_ret (pe_call ok_is_tree_in (hr.mono (by decide)) rfl m_is_tree_in F_is_tree_in.kp b_is_tree_in .nil pass0 (pa_cons (pe_call ok_sure_web (hr.mono (by decide)) rfl m_sure_web F_sure_web.kp b_sure_web .nil pass0 (pa_cons (pv 0) pa_nil)) (pa_cons (pv 1) pa_nil))))), ?_⟩
  rintro B ⟨⟨m, n, ts⟩, d, us⟩ ⟨h1, h2, h3, h4⟩
  exact ht_ret' (ev_callR (ed_cons (ev_callR (ed_cons (ev_var rfl) ed_nil) (d, m, n, ts) rfl ⟨h1, h2, h3⟩) (ed_cons (ev_var rfl) ed_nil)) ((m, n, ts), us) rfl h4) rfl rfl
/-- web, tree given in any form -/
structure WT (x : (Int × Int × List P2) × List P2) (d1 d2 : D) : Prop where
  o1 : okD 4 d1
  e1 : tupD d1 = dN x.1.1 x.1.2.1 x.1.2.2
  w : OkW x.1.1 x.1.2.1 x.1.2.2
  o2 : okD 4 d2
  e2 : tupD d2 = dT x.2
  t : OkT x.1.1 x.1.2.1 x.1.2.2 x.2
abbrev sp_way : Sp := spR (fun x : ((Int × Int × List P2) × List P2) × (D × D) × (D × P2) × D × P2 => [x.2.1.1, x.2.1.2, x.2.2.1.1, x.2.2.2.1])
  (fun x => WT x.1 x.2.1.1 x.2.1.2 ∧ (okD 4 x.2.2.1.1 ∧ tupD x.2.2.1.1 = dP x.2.2.1.2 ∧ PlOk x.1.1.1 x.1.1.2.1 x.2.2.1.2) ∧ (okD 4 x.2.2.2.1 ∧ tupD x.2.2.2.1 = dP x.2.2.2.2 ∧ PlOk x.1.1.1 x.1.1.2.1 x.2.2.2.2) ∧ Con x.1.2 x.2.2.1.2 x.2.2.2.2) fun x => dT (wayOf x.1.2 x.2.2.1.2 x.2.2.2.2)
theorem okD_pair (p : P2) : okD 4 (dP p) := ⟨by show 2 ≤ 1000; decide, fun d hd => by
  rcases List.mem_cons.mp hd with z | z
  · subst z; trivial
  · rw [List.mem_singleton.mp z]; trivial⟩
theorem tupD_pair (p : P2) : tupD (dP p) = dP p := rfl
theorem ok_way (c_sure_web : Cal P w K mg base CX0 6 "sure_web" s_sure_web ["web"] sp_sure_web) (c_sure_tree : Cal P w K mg base CX0 5 "sure_tree" s_sure_tree ["web", "tree"] sp_sure_tree) (c_sure_pair : Cal P w K mg base CX0 5 "sure_pair" s_sure_pair ["pair"] sp_sure_pair) (c_way_in : Cal P w K mg base CX0 2 "way_in" s_way_in ["tree", "place", "other"] sp_way_in) (c_sure_place : Cal P w K mg base CX0 6 "sure_place" s_sure_place ["web", "place"] sp_sure_place) (d : Dfx K mg "way" s_way ["web", "tree", "place", "other"]) : Cal P w K mg base CX0 7 "way" s_way ["web", "tree", "place", "other"] sp_way := d.cal fun f fd F => by
  refine fnR F sc_way (fun _ => rfl) (by decide) fun cdv A outer s H E hr => ?_
  have hu64 := hr.units
  have hu65 := hu65_of hr
  have hu := hu_of hr
  have hu0 := hr.units0
  obtain ⟨f_sure_web, fd_sure_web, F_sure_web, m_sure_web, b_sure_web, ok_sure_web⟩ := c_sure_web
  obtain ⟨f_sure_tree, fd_sure_tree, F_sure_tree, m_sure_tree, b_sure_tree, ok_sure_tree⟩ := c_sure_tree
  obtain ⟨f_sure_pair, fd_sure_pair, F_sure_pair, m_sure_pair, b_sure_pair, ok_sure_pair⟩ := c_sure_pair
  obtain ⟨f_way_in, fd_way_in, F_way_in, m_way_in, b_way_in, ok_way_in⟩ := c_way_in
  obtain ⟨f_sure_place, fd_sure_place, F_sure_place, m_sure_place, b_sure_place, ok_sure_place⟩ := c_sure_place
  have nd := sc_way.nd
  refine ⟨_, (pss_cons (ps_set (i := 4) nd rfl (Or.inl rfl) (pe_call ok_sure_web (hr.mono (by decide)) rfl m_sure_web F_sure_web.kp b_sure_web .nil pass0 (pa_cons (pv 0) pa_nil)))
    (pss_cons (ps_set (i := 5) nd rfl (Or.inl rfl) (pe_call ok_sure_tree (hr.mono (by decide)) rfl m_sure_tree F_sure_tree.kp b_sure_tree .nil pass0 (pa_cons (pv 4) (pa_cons (pv 1) pa_nil))))
    (pss_cons (ps_par (i := 6) (j := 7) rfl nd rfl rfl (by decide) rfl rfl (pa_cons (pe_call ok_sure_pair (hr.mono (by decide)) rfl m_sure_pair F_sure_pair.kp b_sure_pair .nil pass0 (pa_cons (pv 2) pa_nil)) (pa_cons (pe_call ok_sure_pair (hr.mono (by decide)) rfl m_sure_pair F_sure_pair.kp b_sure_pair .nil pass0 (pa_cons (pv 3) pa_nil)) pa_nil)) rfl)
    (pss_one (ps_ret (pe_call ok_way_in (hr.mono (by decide)) rfl m_way_in F_way_in.kp b_way_in .nil pass0 (pa_cons (pv 5) (pa_cons (pe_call ok_sure_place (hr.mono (by decide)) rfl m_sure_place F_sure_place.kp b_sure_place .nil pass0 (pa_cons (pv 4) (pa_cons (pv 6) pa_nil))) (pa_cons (pe_call ok_sure_place (hr.mono (by decide)) rfl m_sure_place F_sure_place.kp b_sure_place .nil pass0 (pa_cons (pv 4) (pa_cons (pv 7) pa_nil))) pa_nil))))))))), ?_⟩
  rintro B ⟨⟨⟨m, n, ts⟩, us⟩, ⟨d1, d2⟩, ⟨d3, p⟩, d4, q⟩ ⟨h, ⟨a1, a2, a3⟩, ⟨b1, b2, b3⟩, hc⟩
  dsimp only at a1 a2 a3 b1 b2 b3 hc
  refine ht_seq (ht_set (ev_callR (ed_cons (ev_var rfl) ed_nil) (d1, m, n, ts) rfl ⟨h.o1, h.e1, h.w⟩) ?_)
  refine ht_seq (ht_set (ev_callR (ed_cons (ev_var rfl) (ed_cons (ev_var rfl) ed_nil)) ((m, n, ts), d2, us) rfl ⟨h.o2, h.e2, h.t⟩) ?_)
  refine ht_seq (ht_par (ea_cons (ev_callR (ed_cons (ev_var rfl) ed_nil) (d3, p) rfl ⟨a1, a2⟩) (ea_cons (ev_callR (ed_cons (ev_var rfl) ed_nil) (d4, q) rfl ⟨b1, b2⟩) ea_nil)) ?_)
  exact ht_ret (ev_callR (ed_cons (ev_var rfl) (ed_cons (ev_callR (ed_cons (ev_var rfl) (ed_cons (ev_var rfl) ed_nil)) ((m, n, ts), dP p, p) rfl ⟨okD_pair B0 p, rfl, a3⟩) (ed_cons (ev_callR (ed_cons (ev_var rfl) (ed_cons (ev_var rfl) ed_nil)) ((m, n, ts), dP q, q) rfl ⟨okD_pair B0 q, rfl, b3⟩) ed_nil))) ((m, n), us, p, q) rfl ⟨h.t.wd a3, hc⟩) rfl
abbrev sp_ends_of : Sp := spR (fun x : ((Int × Int × List P2) × List P2) × D × D => [x.2.1, x.2.2]) (fun x => WT x.1 x.2.1 x.2.2) fun x => dT (endsM x.1.2)
theorem ok_ends_of (c_sure_web : Cal P w K mg base CX0 6 "sure_web" s_sure_web ["web"] sp_sure_web) (c_sure_tree : Cal P w K mg base CX0 5 "sure_tree" s_sure_tree ["web", "tree"] sp_sure_tree) (c_steps_from : Cal P w K mg base CX0 1 "steps_from" s_steps_from ["tree", "place"] sp_steps_from) (c_ties_by : Cal P w K mg base CX0 1 "ties_by" s_ties_by ["web", "place"] sp_ties_by) (d : Dfx K mg "ends_of" s_ends_of ["web", "tree"]) : Cal P w K mg base CX0 7 "ends_of" s_ends_of ["web", "tree"] sp_ends_of := d.cal fun f fd F => by
  refine fnR F sc_ends_of (fun _ => rfl) (by decide) fun cdv A outer s H E hr => ?_
  have hu64 := hr.units
  have hu65 := hu65_of hr
  have hu := hu_of hr
  have hu0 := hr.units0
  obtain ⟨f_sure_web, fd_sure_web, F_sure_web, m_sure_web, b_sure_web, ok_sure_web⟩ := c_sure_web
  obtain ⟨f_sure_tree, fd_sure_tree, F_sure_tree, m_sure_tree, b_sure_tree, ok_sure_tree⟩ := c_sure_tree
  obtain ⟨f_steps_from, fd_steps_from, F_steps_from, m_steps_from, b_steps_from, ok_steps_from⟩ := c_steps_from
  obtain ⟨f_ties_by, fd_ties_by, F_ties_by, m_ties_by, b_ties_by, ok_ties_by⟩ := c_ties_by
  have nd := sc_ends_of.nd
  refine ⟨_, (pss_cons (ps_set (i := 2) nd rfl (Or.inr rfl) (pe_call ok_sure_web (hr.mono (by decide)) rfl m_sure_web F_sure_web.kp b_sure_web .nil pass0 (pa_cons (pv 0) pa_nil)))
    (pss_cons (ps_set (i := 3) nd rfl (Or.inr rfl) (pe_call ok_sure_tree (hr.mono (by decide)) rfl m_sure_tree F_sure_tree.kp b_sure_tree .nil pass0 (pa_cons (pv 2) (pa_cons (pv 1) pa_nil))))
    (pss_cons (ps_setLc (i := 4) (own := [("side", 5), ("number", 6)]) rfl nd rfl rfl (sw_true rfl rfl rfl (by decide +kernel)) (k_iL K rfl (pe_callB (cr_sortedDT (n := 2) (B := 64) (by decide) rfl) rfl B0.sorted (by decide +kernel) (pa_cons (pe_call ok_steps_from (hr.mono (by decide)) rfl m_steps_from F_steps_from.kp b_steps_from .nil pass0 (pa_cons (pv 3) (pa_cons (pe_tup (pa_cons pe_int (pa_cons pe_int pa_nil))) pa_nil))) pa_nil))) (blkOk_by (N := ["web", "tree", "own", "told", "places", "side", "number", "place"]) (sc := defScope s_ends_of) (own := [("side", 5), ("number", 6)]) (by decide +kernel)) (fun _ _ _ _ _ => (k_tup (n := 2) K rfl rfl (pgs_cons (pg_name (i := 5) nd rfl (by first | exact Or.inl rfl | exact Or.inr rfl)) (pgs_cons (pg_name (i := 6) nd rfl (by first | exact Or.inl rfl | exact Or.inr rfl)) pgs_nil)))) (fun _ _ _ _ _ => pts_nil) (fun _ _ _ _ _ => (pe_tup (pa_cons (pv 5) (pa_cons (pv 6) pa_nil)))))
    (pss_one (ps_ret (pe_callTy (k_tuple K rfl) rfl B0.tuple (by decide +kernel) (pa_cons (pe_lc (own := [("place", 7)]) rfl nd (k_iL K rfl (pv 4)) (blkOk_by (N := ["web", "tree", "own", "told", "places", "side", "number", "place"]) (sc := defScope s_ends_of) (own := [("place", 7)]) (by decide +kernel)) (fun _ _ _ _ _ => (pg_name (i := 7) nd rfl (by first | exact Or.inl rfl | exact Or.inr rfl))) (fun _ _ _ _ _ => pts_one (pt_cmpR (k_eqD K rfl hu64) (pe_callB (k_len K rfl) rfl B0.len (by decide +kernel) (pa_cons (pe_call ok_ties_by (hr.mono (by decide)) rfl m_ties_by F_ties_by.kp b_ties_by .nil pass0 (pa_cons (pe_tup (pa_cons (pe_ix (k_ixT K rfl) (pv 2) pe_int (fun _ _ => rfl)) (pa_cons (pe_ix (k_ixT K rfl) (pv 2) pe_int (fun _ _ => rfl)) (pa_cons (pv 3) pa_nil)))) (pa_cons (pv 7) pa_nil))) pa_nil)) pe_int (nomark _))) (fun _ _ _ _ _ => (pv 7))) pa_nil))))))), ?_⟩
  rintro B ⟨⟨⟨m, n, ts⟩, us⟩, d1, d2⟩ h
  dsimp only at h
  have hp : PlOk m n (0, 0) := .inl ⟨rfl, Int.le_refl 0, by have := h.w.m1; exact Int.lt_of_lt_of_le (by decide) this⟩
  have hw : Wd us m n (0, 0) := h.t.wd hp
  have hb := keys_bd B0 hw
  have hL : (stepsM us (0, 0)).length < 64 := by have := hb.1; rwa [fndD_length] at this
  have hz : (sortP (keys (stepsM us (0, 0)))).length ≤ 100000 := by rw [sortP_length]; simp only [keys, List.length_map]; clear hu64 hu65 hu hu0; omega
  refine ht_seq (ht_set (ev_callR (ed_cons (ev_var rfl) ed_nil) (d1, m, n, ts) rfl ⟨h.o1, h.e1, h.w⟩) ?_)
  refine ht_seq (ht_set (ev_callR (ed_cons (ev_var rfl) (ed_cons (ev_var rfl) ed_nil)) ((m, n, ts), d2, us) rfl ⟨h.o2, h.e2, h.t⟩) ?_)
  refine ht_seq (ht_set (e := .d (dL (sortP (keys (stepsM us (0, 0)))))) (ev_lcM (xs := sortP (keys (stepsM us (0, 0)))) (c := dP) dP (ei_list ((ev_sortedD (ev_callFt (ed_cons (ev_var rfl) (ed_cons (ev_tupD (ds := [.int 0, .int 0]) (ed_cons ev_int (ed_cons ev_int ed_nil)) (by decide)) ed_nil)) ((m, n), us, (0, 0)) rfl hw) hb.1 hb.2).is (by rw [fndD_keys]))) (hv2 rfl rfl) hj2 hz fun p hp => ⟨_, eg_tup2, ev_tupD (ds := [.int p.1, .int p.2]) (ed_cons (ev_var rfl) (ed_cons (ev_var rfl) ed_nil)) (by show 2 ≤ 100000; decide)⟩) ?_)
  refine ht_ret' (ev_cbD (ed_cons (ev_lcF (xs := sortP (keys (stepsM us (0, 0)))) (c := dP) (fun p => decide ((us.filter fun t => decide (sideP t p.1 = p.2)).length = 1)) dP (ei_list (ev_var rfl)) (hv1 rfl) hj1 hz fun p hp => ⟨_, eg_name, ?_, fun _ => ev_var rfl⟩) ed_nil) rc_tupL) rfl rfl
  have sd : p.1 = 0 ∨ p.1 = 1 := (hw.bi.sp p (mem_sortP.mp hp)).side
  refine eb_test ((ev_op (ev_cbD (ed_cons (ev_callR (ed_cons (ev_tupD (ds := [.int m, .int n, dT us]) (ed_cons (ev_op (ev_var rfl) ev_int ix0) (ed_cons (ev_op (ev_var rfl) ev_int ix1) (ed_cons (ev_var rfl) ed_nil))) (by show 3 ≤ 100000; decide)) (ed_cons (ev_var rfl) ed_nil)) ((m, n, us), p) rfl ⟨sd, hw.z⟩) ed_nil) rc_lenL) ev_int (ro_eqD (shaped_int _) (shaped_int _))).is ?_)
  rw [eqv_int, List.length_map]
  congr 2
  exact decide_eq_decide.mpr ⟨fun z => Int.ofNat.inj z, fun z => congrArg Int.ofNat z⟩
end
end G

set_option Elab.async false
set_option linter.all false
set_option maxRecDepth 100000
/-! Mir3: marks and what is joined, the swap of ties, the closure by laps. -/
namespace G
open PySem L2
/-! ### sizes of sets of ints -/
theorem dd_fold (ns : List Int) : ∀ S : List Int, S.Nodup → (ns.foldl PyProof.Rows.step_dedup S).Nodup ∧ ∀ x, x ∈ ns.foldl PyProof.Rows.step_dedup S ↔ x ∈ S ∨ x ∈ ns := by
  induction ns with
  | nil => intro S h; exact ⟨h, fun x => by simp⟩
  | cons a ns ih =>
    intro S h
    rw [List.foldl_cons]
    by_cases ha : a ∈ S
    · have e : PyProof.Rows.step_dedup S a = S := by
        unfold PyProof.Rows.step_dedup
        rw [if_pos (by rw [List.any_eq_true]; exact ⟨a, ha, by simp⟩)]
      rw [e]
      refine ⟨(ih S h).1, fun x => ?_⟩
      rw [(ih S h).2 x]
      constructor
      · rintro (z | z)
        · exact .inl z
        · exact .inr (List.mem_cons_of_mem _ z)
      · rintro (z | z)
        · exact .inl z
        · rcases List.mem_cons.mp z with y | y
          · subst y; exact .inl ha
          · exact .inr y
    · have e : PyProof.Rows.step_dedup S a = S ++ [a] := by
        unfold PyProof.Rows.step_dedup
        rw [if_neg]
        rw [List.any_eq_true]
        rintro ⟨x, hx, e⟩
        exact ha (by rw [← beq_iff_eq.mp e]; exact hx)
      have h2 : (S ++ [a]).Nodup := List.nodup_append.mpr ⟨h, by simp, fun x hx y hy e => ha (by rw [List.mem_singleton.mp hy] at e; rw [← e]; exact hx)⟩
      rw [e]
      refine ⟨(ih _ h2).1, fun x => ?_⟩
      rw [(ih _ h2).2 x]
      constructor
      · rintro (z | z)
        · rcases List.mem_append.mp z with y | y
          · exact .inl y
          · exact .inr (List.mem_cons.mpr (.inl (List.mem_singleton.mp y)))
        · exact .inr (List.mem_cons_of_mem _ z)
      · rintro (z | z)
        · exact .inl (List.mem_append_left _ z)
        · rcases List.mem_cons.mp z with y | y
          · exact .inl (List.mem_append_right _ (List.mem_singleton.mpr y))
          · exact .inr y
theorem range_getD (ns : List Int) : (List.range ns.length).map (fun i => ns.getD i 0) = ns := by
  refine List.ext_getElem (by simp) fun i h1 h2 => ?_
  rw [List.getElem_map, List.getElem_range, List.getD_eq_getElem?_getD, List.getElem?_eq_getElem h2]; rfl
theorem lenSet_ex (ns : List Int) : ∃ S : List Int, S.Nodup ∧ (∀ x, x ∈ S ↔ x ∈ ns) ∧ S.length = lenSet ns := by
  refine ⟨ns.foldl PyProof.Rows.step_dedup [], (dd_fold ns [] .nil).1, fun x => by rw [(dd_fold ns [] .nil).2 x]; simp, ?_⟩
  unfold lenSet PyProof.Rows.firstMet
  rw [range_getD]
theorem lenSet_one {ns : List Int} (h : ns ≠ []) : lenSet ns = 1 ↔ ∀ x ∈ ns, x = ns.getD 0 0 := by
  obtain ⟨S, h1, h2, h3⟩ := lenSet_ex ns
  have hh : ns.getD 0 0 ∈ ns := by
    cases ns with
    | nil => exact absurd rfl h
    | cons a l => simp
  rw [← h3]
  constructor
  · intro e x hx
    obtain ⟨a, rfl⟩ := List.length_eq_one_iff.mp e
    rw [List.mem_singleton.mp ((h2 x).mpr hx), List.mem_singleton.mp ((h2 _).mpr hh)]
  · intro e
    have a : S.length ≤ [ns.getD 0 0].length := h1.length_le_of_subset fun x hx => by rw [e x ((h2 x).mp hx)]; simp
    have b : 0 < S.length := List.length_pos_of_mem ((h2 _).mpr hh)
    simp at a
    omega
theorem lenSet_nodup {ns : List Int} (h : ns.Nodup) : lenSet ns = ns.length := by
  obtain ⟨S, h1, h2, h3⟩ := lenSet_ex ns
  rw [← h3]
  exact ((List.perm_ext_iff_of_nodup h1 h).mpr h2).length_eq
theorem rgI_nodup (n : Nat) : (rgI n).Nodup := by
  unfold rgI
  exact List.Pairwise.map _ (fun a b h => by intro z; apply h; omega) (List.nodup_range (n := n))
/-! ### marks -/
def idx (m : Int) (p : P2) : Nat := (if p.1 = 0 then p.2 else m + p.2).toNat
theorem idx0 (m a : Int) : idx m (0, a) = a.toNat := rfl
theorem idx1 (m a : Int) : idx m (1, a) = (m + a).toNat := rfl
theorem idx_lt {m n : Int} {p : P2} (h : PlOk m n p) (hm : 0 ≤ m) (hn : 0 ≤ n) : idx m p < (m + n).toNat := by
  obtain ⟨a, b⟩ := p
  rcases h with ⟨h1, h2, h3⟩ | ⟨h1, h2, h3⟩ <;> dsimp only at h1 h2 h3 <;> subst h1
  · rw [idx0]; omega
  · rw [idx1]; omega
theorem idx_inj {m n : Int} {p q : P2} (hm : 0 ≤ m) (h : PlOk m n p) (k : PlOk m n q) (e : idx m p = idx m q) : p = q := by
  obtain ⟨a, b⟩ := p
  obtain ⟨c, d⟩ := q
  rcases h with ⟨h1, h2, h3⟩ | ⟨h1, h2, h3⟩ <;> dsimp only at h1 h2 h3 <;> subst h1 <;> rcases k with ⟨k1, k2, k3⟩ | ⟨k1, k2, k3⟩ <;> dsimp only at k1 k2 k3 <;> subst k1
  · rw [idx0, idx0] at e; exact Prod.ext rfl (by dsimp only; omega)
  · rw [idx0, idx1] at e; omega
  · rw [idx1, idx0] at e; omega
  · rw [idx1, idx1] at e; exact Prod.ext rfl (by dsimp only; omega)
theorem idx_surj {m n : Int} (hm : 0 ≤ m) (hn : 0 ≤ n) {i : Nat} (h : i < (m + n).toNat) : ∃ p, PlOk m n p ∧ idx m p = i := by
  by_cases hi : (i : Int) < m
  · exact ⟨(0, i), .inl ⟨rfl, by dsimp only; omega, hi⟩, by rw [idx0]; omega⟩
  · exact ⟨(1, i - m), .inr ⟨rfl, by dsimp only; omega, by dsimp only; omega⟩, by rw [idx1]; omega⟩
theorem tie_pl {m n : Int} {t : P2} (r : InR m n t) : PlOk m n (0, t.1) ∧ PlOk m n (1, t.2) := ⟨.inl ⟨rfl, r.1, r.2.1⟩, .inr ⟨rfl, r.2.2.1, r.2.2.2⟩⟩
def Eq0 (m : Int) (ms : List Int) (p q : P2) : Prop := ms.getD (idx m p) 0 = ms.getD (idx m q) 0
def mkF (near far o : Int) : Int := if o = far then near else o
theorem markedM_eq (ms : List Int) (m : Int) (t : P2) : markedM ms m t = if ms.getD (idx m (0, t.1)) 0 = ms.getD (idx m (1, t.2)) 0 then ms else ms.map (mkF (ms.getD (idx m (0, t.1)) 0) (ms.getD (idx m (1, t.2)) 0)) := rfl
theorem getD_map {ms : List Int} {f : Int → Int} {i : Nat} (h : i < ms.length) : (ms.map f).getD i 0 = f (ms.getD i 0) := by
  rw [List.getD_eq_getElem?_getD, List.getD_eq_getElem?_getD, List.getElem?_map, List.getElem?_eq_getElem h]; rfl
section
variable {m n : Int} {ms : List Int} {t p q : P2} {us T : List P2}
theorem eq0_marked (hl : ms.length = (m + n).toNat) (hm : 0 ≤ m) (hn : 0 ≤ n) (hp : PlOk m n p) (hq : PlOk m n q) (h : Eq0 m ms p q) : Eq0 m (markedM ms m t) p q := by
  unfold Eq0 at h ⊢
  rw [markedM_eq]
  split
  · exact h
  · rw [getD_map (by rw [hl]; exact idx_lt hp hm hn), getD_map (by rw [hl]; exact idx_lt hq hm hn), h]
theorem eq0_tie (hl : ms.length = (m + n).toNat) (hm : 0 ≤ m) (hn : 0 ≤ n) (r : InR m n t) : Eq0 m (markedM ms m t) (0, t.1) (1, t.2) := by
  unfold Eq0
  rw [markedM_eq]
  split
  · rename_i h; exact h
  · rename_i h
    rw [getD_map (by rw [hl]; exact idx_lt (tie_pl r).1 hm hn), getD_map (by rw [hl]; exact idx_lt (tie_pl r).2 hm hn)]
    unfold mkF
    rw [if_neg h, if_pos rfl]
theorem eq0_back (hl : ms.length = (m + n).toNat) (hm : 0 ≤ m) (hn : 0 ≤ n) (r : InR m n t) (ht : t ∈ T) (hE : ∀ p q, PlOk m n p → PlOk m n q → Eq0 m ms p q → Con T p q) (hp : PlOk m n p) (hq : PlOk m n q) (h : Eq0 m (markedM ms m t) p q) : Con T p q := by
  have c01 : Con T (0, t.1) (1, t.2) := .one ht (.inl ⟨rfl, rfl⟩)
  obtain ⟨p0, p1⟩ := tie_pl r
  unfold Eq0 at h
  rw [markedM_eq] at h
  split at h
  · exact hE p q hp hq h
  · rename_i hne
    rw [getD_map (by rw [hl]; exact idx_lt hp hm hn), getD_map (by rw [hl]; exact idx_lt hq hm hn)] at h
    unfold mkF at h
    by_cases a : ms.getD (idx m p) 0 = ms.getD (idx m (1, t.2)) 0
    · rw [if_pos a] at h
      by_cases b : ms.getD (idx m q) 0 = ms.getD (idx m (1, t.2)) 0
      · exact hE p q hp hq (a.trans b.symm)
      · rw [if_neg b] at h
        exact (hE p _ hp p1 a).trans (c01.symm.trans (hE _ q p0 hq h))
    · rw [if_neg a] at h
      by_cases b : ms.getD (idx m q) 0 = ms.getD (idx m (1, t.2)) 0
      · rw [if_pos b] at h
        exact (hE p _ hp p0 h).trans (c01.trans (hE _ q p1 hq b.symm))
      · rw [if_neg b] at h
        exact hE p q hp hq h
theorem grown_back (hm : 0 ≤ m) (hn : 0 ≤ n) : ∀ (us : List P2) (ms : List Int), ms.length = (m + n).toNat → (∀ t ∈ us, InR m n t ∧ t ∈ T) → (∀ p q, PlOk m n p → PlOk m n q → Eq0 m ms p q → Con T p q) →
    ∀ p q, PlOk m n p → PlOk m n q → Eq0 m (grownM ms m us) p q → Con T p q
  | [], _, _, _, hE => hE
  | u :: us, ms, hl, hu, hE => grown_back hm hn us (markedM ms m u) (by rw [markedM_length]; exact hl) (fun t ht => hu t (List.mem_cons_of_mem _ ht)) fun p q hp hq h => eq0_back hl hm hn (hu u List.mem_cons_self).1 (hu u List.mem_cons_self).2 hE hp hq h
theorem grown_keep (hm : 0 ≤ m) (hn : 0 ≤ n) (hp : PlOk m n p) (hq : PlOk m n q) : ∀ (us : List P2) (ms : List Int), ms.length = (m + n).toNat → Eq0 m ms p q → Eq0 m (grownM ms m us) p q
  | [], _, _, h => h
  | u :: us, ms, hl, h => grown_keep hm hn hp hq us (markedM ms m u) (by rw [markedM_length]; exact hl) (eq0_marked hl hm hn hp hq h)
theorem grown_tie (hm : 0 ≤ m) (hn : 0 ≤ n) : ∀ (us : List P2) (ms : List Int), ms.length = (m + n).toNat → ∀ t ∈ us, InR m n t → Eq0 m (grownM ms m us) (0, t.1) (1, t.2)
  | [], _, _, _, h, _ => by cases h
  | u :: us, ms, hl, t, h, r => by
    rcases List.mem_cons.mp h with z | z
    · subst z
      exact grown_keep hm hn (tie_pl r).1 (tie_pl r).2 us _ (by rw [markedM_length]; exact hl) (eq0_tie hl hm hn r)
    · exact grown_tie hm hn us (markedM ms m u) (by rw [markedM_length]; exact hl) t z r
theorem grown_con (hm : 0 ≤ m) (hn : 0 ≤ n) (hl : ms.length = (m + n).toNat) (hr : ∀ t ∈ us, InR m n t) (h : Con us p q) : Eq0 m (grownM ms m us) p q := by
  induction h with
  | refl => rfl
  | snoc _ ht lk ih =>
    have e := grown_tie hm hn us ms hl _ ht (hr _ ht)
    rcases lk with ⟨a, b⟩ | ⟨a, b⟩
    · subst a b; exact Eq.trans ih e
    · subst a b; exact Eq.trans ih e.symm
theorem rgI_get {N i : Nat} (h : i < N) : (rgI N).getD i 0 = i := by
  unfold rgI
  rw [List.getD_eq_getElem?_getD, List.getElem?_map, List.getElem?_range h]
  simp
/-- all is joined -/
abbrev AllCon (m n : Int) (us : List P2) : Prop := ∀ p q, PlOk m n p → PlOk m n q → Con us p q
theorem hangs_iff (hm : 1 ≤ m) (hn : 0 ≤ n) (hr : ∀ t ∈ us, InR m n t) : hangsB m n us = true ↔ AllCon m n us := by
  have hm' : 0 ≤ m := by omega
  have hl0 : (rgI (m + n).toNat).length = (m + n).toNat := rgI_length _
  have hl : (grownM (rgI (m + n).toNat) m us).length = (m + n).toNat := by rw [grownM_length]; exact hl0
  have hne : grownM (rgI (m + n).toNat) m us ≠ [] := fun z => by rw [z] at hl; simp at hl; omega
  have h1 : hangsB m n us = true ↔ lenSet (grownM (rgI (m + n).toNat) m us) = 1 := by
    unfold hangsB
    rw [decide_eq_true_eq]; omega
  rw [h1, lenSet_one hne]
  constructor
  · intro h p q hp hq
    refine grown_back hm' hn us _ hl0 (fun t ht => ⟨hr t ht, ht⟩) (fun p q hp hq e => ?_) p q hp hq ?_
    · unfold Eq0 at e
      rw [rgI_get (idx_lt hp hm' hn), rgI_get (idx_lt hq hm' hn)] at e
      rw [idx_inj hm' hp hq (by omega)]
      exact .refl _
    · have mem : ∀ p, PlOk m n p → (grownM (rgI (m + n).toNat) m us).getD (idx m p) 0 ∈ grownM (rgI (m + n).toNat) m us := fun p hp => by
        have := idx_lt hp hm' hn
        rw [List.getD_eq_getElem?_getD, List.getElem?_eq_getElem (by rw [hl]; exact this)]
        exact List.getElem_mem _
      exact (h _ (mem p hp)).trans (h _ (mem q hq)).symm
  · intro h x hx
    obtain ⟨i, hi, rfl⟩ := List.getElem_of_mem hx
    rw [hl] at hi
    obtain ⟨p, hp, e⟩ := idx_surj hm' hn hi
    have p0 : PlOk m n (0, 0) := .inl ⟨rfl, Int.le_refl _, by dsimp only; omega⟩
    have z := grown_con hm' hn hl0 hr (h p (0, 0) hp p0)
    unfold Eq0 at z
    rw [e, idx0] at z
    rw [List.getD_eq_getElem?_getD, List.getElem?_eq_getElem (by rw [hl]; exact hi)] at z
    exact z
/-! ### counting merges -/
theorem merge_len {near far : Int} (h1 : near ∈ ms) (h2 : far ∈ ms) (hne : near ≠ far) : lenSet (ms.map (mkF near far)) + 1 = lenSet ms := by
  obtain ⟨S, a1, a2, a3⟩ := lenSet_ex ms
  obtain ⟨S', b1, b2, b3⟩ := lenSet_ex (ms.map (mkF near far))
  rw [← a3, ← b3]
  have nf : far ∉ S' := fun z => by
    obtain ⟨o, ho, e⟩ := List.mem_map.mp ((b2 _).mp z)
    unfold mkF at e
    split at e
    · exact hne e
    · rename_i k; exact k e
  have nd : (far :: S').Nodup := List.nodup_cons.mpr ⟨nf, b1⟩
  have pm : (far :: S').Perm S := (List.perm_ext_iff_of_nodup nd a1).mpr fun x => by
    rw [a2 x, List.mem_cons, b2 x, List.mem_map]
    constructor
    · rintro (z | ⟨o, ho, e⟩)
      · subst z; exact h2
      · unfold mkF at e
        split at e
        · subst e; exact h1
        · subst e; exact ho
    · intro hx
      by_cases e : x = far
      · exact .inl e
      · exact .inr ⟨x, hx, by unfold mkF; rw [if_neg e]⟩
  exact pm.length_eq
theorem marked_len (hl : ms.length = (m + n).toNat) (hm : 0 ≤ m) (hn : 0 ≤ n) (r : InR m n t) :
    lenSet (markedM ms m t) + (if ms.getD (idx m (0, t.1)) 0 = ms.getD (idx m (1, t.2)) 0 then 0 else 1) = lenSet ms := by
  have mem : ∀ p, PlOk m n p → ms.getD (idx m p) 0 ∈ ms := fun p hp => by
    have := idx_lt hp hm hn
    rw [List.getD_eq_getElem?_getD, List.getElem?_eq_getElem (by rw [hl]; exact this)]
    exact List.getElem_mem _
  rw [markedM_eq]
  by_cases h : ms.getD (idx m (0, t.1)) 0 = ms.getD (idx m (1, t.2)) 0
  · rw [if_pos h, if_pos h]; rfl
  · rw [if_neg h, if_neg h]; exact merge_len (mem _ (tie_pl r).1) (mem _ (tie_pl r).2) h
theorem grown_len (hm : 0 ≤ m) (hn : 0 ≤ n) : ∀ (us : List P2) (ms : List Int), ms.length = (m + n).toNat → (∀ t ∈ us, InR m n t) → lenSet ms ≤ lenSet (grownM ms m us) + us.length
  | [], ms, _, _ => Nat.le_refl _
  | u :: us, ms, hl, hu => by
    have a := marked_len hl hm hn (hu u List.mem_cons_self)
    have b := grown_len hm hn us (markedM ms m u) (by rw [markedM_length]; exact hl) fun t ht => hu t (List.mem_cons_of_mem _ ht)
    show lenSet ms ≤ lenSet (grownM (markedM ms m u) m us) + (us.length + 1)
    split at a <;> omega
/-- what is joined has ties enough -/
theorem con_len (hm : 1 ≤ m) (hn : 0 ≤ n) (hr : ∀ t ∈ us, InR m n t) (h : AllCon m n us) : m + n - 1 ≤ us.length := by
  have z := (hangs_iff hm hn hr).mpr h
  unfold hangsB at z
  have z := of_decide_eq_true z
  have a := grown_len (by omega) hn us (rgI (m + n).toNat) (rgI_length _) hr
  rw [lenSet_nodup (rgI_nodup _), rgI_length] at a
  omega
end
end G

set_option Elab.async false
set_option linter.all false
set_option maxRecDepth 100000
set_option maxHeartbeats 4000000
namespace G
open PySem L2
abbrev s_part : Stmt := top 35
theorem sc_part : FnScope ["web", "tree", "tie", "side", "own", "told", "near", "half"] ["web", "tree", "tie", "side"] (defScope s_part) := ⟨rfl, rfl, rfl, by decide +kernel, rfl, by decide +kernel, by decide +kernel⟩
abbrev s_closes : Stmt := top 36
theorem sc_closes : FnScope ["web", "tree", "tie", "own", "told", "near"] ["web", "tree", "tie"] (defScope s_closes) := ⟨rfl, rfl, rfl, by decide +kernel, rfl, by decide +kernel, by decide +kernel⟩
abbrev s_changed : Stmt := top 37
theorem sc_changed : FnScope ["web", "tree", "put", "out", "own", "told", "near", "far", "tie"] ["web", "tree", "put", "out"] (defScope s_changed) := ⟨rfl, rfl, rfl, by decide +kernel, rfl, by decide +kernel, by decide +kernel⟩
/-- a def that may raise the error class C -/
def spX (C : Addr) {α : Type} (shape : α → List D) (pre : α → Prop) (res : α → Option D) : Sp := fun vs H Q E => ∃ I x, Same I H ∧ DdAll I vs (shape x) ∧ pre x ∧
  (∀ d, res x = some d → ∀ v I' H', Gr T0 I H I' H' → Dd I' v d → Q v H') ∧ (res x = none → ∀ I' H', Gr T0 I H I' H' → E (.ref C) none H')
/-- never answers -/
def EvZ (B : Bs) (te : TE) (Γ : List En) : Prop := ∀ σ ts H, Stt B σ Γ ts H → ∀ Q : VK, te σ H Q
section
variable {B : Bs} {Γ : List En} {te ta tb : TE} {tt : TT} {tA : TA} {x d : D} {ds : List D} {C : Addr} {N : List En → Prop} {R : List En → En → Prop}
theorem ev_callS {α : Type} {shape : α → List D} {pre : α → Prop} {res : α → Option D} {E : L2.St → XK} (h : EvD B tA Γ ds) (x : α) (e : ds = shape x) (hp : pre x) (hr : res x = some d) : EvE B (tCallS (spX C shape pre res) E tA) Γ (.d d) := fun σ ts H s Q q =>
  h σ ts H s _ fun vs H1 hl s1 => by
    rw [List.length_map] at hl
    obtain ⟨h0, I, g, k, e'⟩ := s1.args hl
    refine ⟨I, x, g.s, e ▸ k, hp, fun d' hd v I' H' g' k' => q v H' ?_, fun z => by rw [hr] at z; cases z⟩
    rw [hr] at hd
    cases hd
    exact Stt.fin h0 g e' g' k'
theorem ez_callS {α : Type} {shape : α → List D} {pre : α → Prop} {res : α → Option D} {E : L2.St → XK} (h : EvD B tA Γ ds) (x : α) (e : ds = shape x) (hp : pre x) (hr : res x = none) (hE : ∀ σ ts H, Stt B σ Γ ts H → E σ (.ref C) none H) : EvZ B (tCallS (spX C shape pre res) E tA) Γ := fun σ ts H s Q =>
  h σ ts H s _ fun vs H1 hl s1 => by
    rw [List.length_map] at hl
    obtain ⟨h0, I, g, k, e'⟩ := s1.args hl
    refine ⟨I, x, g.s, e ▸ k, hp, fun d' hd => (by rw [hr] at hd; cases hd), fun _ I' H' g' => hE σ ts H' ⟨h0, I', g.trans g'.weak, e'.grow g'⟩⟩
theorem ez_if {b : Bool} (h : EvB B tt Γ b) (h1 : b = true → EvZ B ta Γ) (h2 : b = false → EvZ B tb Γ) : EvZ B (tIf tt ta tb) Γ := fun σ ts H s Q => h σ ts H s _ fun H1 s1 => by
  cases b with
  | true => exact (h1 rfl) σ ts H1 s1 Q
  | false => exact (h2 rfl) σ ts H1 s1 Q
theorem ht_retZ (h : EvZ B te Γ) : HT B (tRet te) Γ N R := fun σ ts H Dn s n r => h σ ts H s _
theorem ht_raise {W : WX} (h : ∀ σ ts H, Stt B σ Γ ts H → W (.ref C) none σ H) : HT B (fun _ σ H => (fun (_ : L2.St) (H : Hp) (Q : XK) => Q (.ref C) none H) σ H fun cls d H' => W cls d σ H') Γ N R := fun σ ts H Dn s n r => h σ ts H s
end
theorem pss_pure {X : Cx} {b : List Stmt} {p : Prop} {t : TS} (h : p → PSs X b t) : PSs X b (fun D σ H => p ∧ t D σ H) := ⟨fun pins s σ H D I ⟨hp, h'⟩ => (h hp).run pins s σ H D I h'⟩
section
variable {P : Program} {w : World} {K : PySem.W.Frag} {mg : Str → Option Value} {base : Heap} {x : Str} {st : Stmt} {f : Addr} {fd : FuncData} {N ps : List Str} {k : Nat}
theorem fnX {C : Addr} {α : Type} {shape : α → List D} {pre : α → Prop} {res : α → Option D} (F : Fun K x x st f fd) (S : FnScope N ps (defScope st)) (hn : ∀ x, (shape x).length = ps.length) (hN : ps.length ≤ N.length)
    (body : ∀ (cdv : Value) (A : Around) (outer : List PySem.Env) (s : Shared) (H : Hp) (E : XK), Room k (A.deeper (PyProof.Rows.envOfC x (defScope st) s.heap.objs.size f cdv)) →
      ∃ t, PSs (cxOf (L2.CX P w) P w K mg base N x (defScope st) f cdv A outer s H E) (defBody st) t ∧
        ∀ (B : Bs) x, pre x → (res x = none → ∀ σ Γ ts H', Stt B σ Γ ts H' → E (.ref C) none H') → HT B t ((shape x).map En.d ++ List.replicate (N.length - (shape x).length) En.un) (fun _ => False) (fun _ e => ∃ d, e = .d d ∧ res x = some d)) :
    FnOk P w K mg base (L2.CX P w) (k + 1) f fd ps (spX C shape pre res) := by
  refine F.okX S (fun vs H Q E ⟨I, x, sI, hd, hp, q⟩ => by rw [hd.length]; exact hn x) fun cdv A outer s H vs Q E hr ⟨I, x, sI, hd, hp, q, q2⟩ => ?_
  obtain ⟨t, ht, hb⟩ := body cdv A outer s H E hr
  refine ⟨t, ht, ?_⟩
  have s0 := stt_start (K := K) N sI hd (by rw [hn x]; exact hN)
  refine hb _ x hp (fun hz σ Γ ts H' ⟨_, I', g, _⟩ => q2 hz I' H' g) _ [] H _ s0 (fun Γ' σ' H' hN s' => hN.elim) fun Γ' e σ' v H' ⟨d, ed, pd⟩ s' => ?_
  subst ed
  obtain ⟨hl, I', g, k, _⟩ := s'.one
  exact q d pd v I' H' g k
end
/-- what the class CanNot, at C, is -/
structure CanNot (K : PySem.W.Frag) (mg : Str → Option Value) (C : Addr) : Prop where
  x : PySem.W.excIn K C [.type "ValueError", .type "Exception", .type "BaseException", .type "object"] "ValueError.__new__" = true
  g : mg "CanNot" = some (.ref C)
  k : PySem.W.keepIn K (.ref C) = true
  b : PySem.W.subIn K (.ref C) (.type "BaseException") = some true
  t : PySem.W.typeIn K (.ref C) = some (.type "type")
  m : PySem.W.exmOne K (.ref C) (.ref C) = some true
  e : ExcC K C
  q : PySem.W.kitOne K (.ref C) (.type "ValueError") = some true
section
variable {P : Program} {w : World} {K : PySem.W.Frag} {mg : Str → Option Value} {base : Heap} {C : Addr} (B0 : Bi mg) (C0 : CanNot K mg C)
include B0 C0
abbrev sp_part (C : Addr) : Sp := spX C (fun x : ((Int × Int × List P2) × List P2) × (D × D) × (D × P2) × Int => [x.2.1.1, x.2.1.2, x.2.2.1.1, .int x.2.2.2])
  (fun x => WT x.1 x.2.1.1 x.2.1.2 ∧ okD 4 x.2.2.1.1 ∧ tupD x.2.2.1.1 = dP x.2.2.1.2 ∧ x.2.2.1.2 ∈ x.1.1.2.2 ∧ (x.2.2.2 = 0 ∨ x.2.2.2 = 1))
  (fun x => if x.2.2.1.2 ∈ x.1.2 then some (dT (partM x.1.2 x.2.2.1.2 x.2.2.2)) else none)
theorem side_pl {m n : Int} {t : P2} {s : Int} (h : s = 0 ∨ s = 1) (r : InR m n t) : PlOk m n (s, sideP t s) := by
  rcases h with h | h <;> subst h
  · exact .inl ⟨rfl, r.1, r.2.1⟩
  · exact .inr ⟨rfl, r.2.2.1, r.2.2.2⟩
theorem ok_part (c_sure_web : Cal P w K mg base CX0 6 "sure_web" s_sure_web ["web"] sp_sure_web) (c_sure_tree : Cal P w K mg base CX0 5 "sure_tree" s_sure_tree ["web", "tree"] sp_sure_tree) (c_sure_pair : Cal P w K mg base CX0 5 "sure_pair" s_sure_pair ["pair"] sp_sure_pair) (c_sure_side : Cal P w K mg base CX0 3 "sure_side" s_sure_side ["side"] sp_sure_side) (c_sure_tie : Cal P w K mg base CX0 6 "sure_tie" s_sure_tie ["web", "tie"] sp_sure_tie) (c_part_in : Cal P w K mg base CX0 2 "part_in" s_part_in ["web", "tree", "tie", "side"] sp_part_in) (d : Dfx K mg "part" s_part ["web", "tree", "tie", "side"]) : Cal P w K mg base (L2.CX P w) 7 "part" s_part ["web", "tree", "tie", "side"] (sp_part C) := d.cal fun f fd F => by
  refine fnX F sc_part (fun _ => rfl) (by decide) fun cdv A outer s H E hr => ?_
  have hu64 := hr.units
  have hu65 := hu65_of hr
  have hu := hu_of hr
  have hu0 := hr.units0
  obtain ⟨f_sure_web, fd_sure_web, F_sure_web, m_sure_web, b_sure_web, ok_sure_web⟩ := c_sure_web
  obtain ⟨f_sure_tree, fd_sure_tree, F_sure_tree, m_sure_tree, b_sure_tree, ok_sure_tree⟩ := c_sure_tree
  obtain ⟨f_sure_pair, fd_sure_pair, F_sure_pair, m_sure_pair, b_sure_pair, ok_sure_pair⟩ := c_sure_pair
  obtain ⟨f_sure_side, fd_sure_side, F_sure_side, m_sure_side, b_sure_side, ok_sure_side⟩ := c_sure_side
  obtain ⟨f_sure_tie, fd_sure_tie, F_sure_tie, m_sure_tie, b_sure_tie, ok_sure_tie⟩ := c_sure_tie
  obtain ⟨f_part_in, fd_part_in, F_part_in, m_part_in, b_part_in, ok_part_in⟩ := c_part_in
  have nd := sc_part.nd
  refine ⟨_, (pss_cons (ps_set (i := 4) nd rfl (Or.inl rfl) (pe_call ok_sure_web (hr.mono (by decide)) rfl m_sure_web F_sure_web.kp b_sure_web .nil pass0 (pa_cons (pv 0) pa_nil)))
    (pss_cons (ps_set (i := 5) nd rfl (Or.inl rfl) (pe_call ok_sure_tree (hr.mono (by decide)) rfl m_sure_tree F_sure_tree.kp b_sure_tree .nil pass0 (pa_cons (pv 4) (pa_cons (pv 1) pa_nil))))
    (pss_cons (ps_set (i := 6) nd rfl (Or.inl rfl) (pe_call ok_sure_pair (hr.mono (by decide)) rfl m_sure_pair F_sure_pair.kp b_sure_pair .nil pass0 (pa_cons (pv 2) pa_nil)))
    (pss_cons (ps_set (i := 7) nd rfl (Or.inl rfl) (pe_call ok_sure_side (hr.mono (by decide)) rfl m_sure_side F_sure_side.kp b_sure_side .nil pass0 (pa_cons (pv 3) pa_nil)))
    (pss_cons (ps_if (pt_cmpR (k_notInDT K rfl hu65) (pe_call ok_sure_tie (hr.mono (by decide)) rfl m_sure_tie F_sure_tie.kp b_sure_tie .nil pass0 (pa_cons (pv 4) (pa_cons (pv 6) pa_nil))) (pv 5) rfl) (pss_one (ps_raise rfl (takes_of rfl rfl rfl rfl) (pmk_own0 PySem.F.excBase_ValueError C0.x C0.g C0.k (raises_own C0.b C0.t) rfl))) pss_nil)
    (pss_one (ps_ret (pe_call ok_part_in (hr.mono (by decide)) rfl m_part_in F_part_in.kp b_part_in .nil pass0 (pa_cons (pv 4) (pa_cons (pv 5) (pa_cons (pv 6) (pa_cons (pv 7) pa_nil)))))))))))), ?_⟩
  rintro B ⟨⟨⟨m, n, ts⟩, us⟩, ⟨d1, d2⟩, ⟨d3, t⟩, sd⟩ ⟨h, a1, a2, a3, a4⟩ hE
  dsimp only at a1 a2 a3 a4 hE
  refine ht_seq (ht_set (ev_callR (ed_cons (ev_var rfl) ed_nil) (d1, m, n, ts) rfl ⟨h.o1, h.e1, h.w⟩) ?_)
  refine ht_seq (ht_set (ev_callR (ed_cons (ev_var rfl) (ed_cons (ev_var rfl) ed_nil)) ((m, n, ts), d2, us) rfl ⟨h.o2, h.e2, h.t⟩) ?_)
  refine ht_seq (ht_set (ev_callR (ed_cons (ev_var rfl) ed_nil) (d3, t) rfl ⟨a1, a2⟩) ?_)
  refine ht_seq (ht_set (ev_callR (ed_cons (ev_var rfl) ed_nil) sd rfl a4) ?_)
  refine ht_seq (ht_if (b := !decide (t ∈ us)) (eb_test ((ev_op (ev_callR (ed_cons (ev_var rfl) (ed_cons (ev_var rfl) ed_nil)) ((m, n, ts), dP t, t) rfl ⟨okD_pair B0 t, rfl, a3⟩) (ev_var rfl) (ro_notInT (shaped_pair t) (shaped_pairs us))).is (by rw [any_pair]))) (fun hb => ?_) fun hb => ht_next ?_)
  · have hb : t ∉ us := of_decide_eq_false (by rw [Bool.not_eq_true'] at hb; exact hb)
    rw [if_neg hb] at hE
    exact ht_raise (C := C) (W := fun cls d _ H => E cls d H) fun σ ts H s => hE rfl σ _ ts H s
  · have hb : t ∈ us := of_decide_eq_true (by rw [Bool.not_eq_false'] at hb; exact hb)
    have hw : Wd (us.filter fun u => !decide (u = t)) m n (sd, sideP t sd) := ⟨h.t.mn, h.t.m0, h.t.n0, fun u hu => h.t.r u (List.mem_filter.mp hu).1, Nat.le_trans (List.length_filter_le _ _) (h.t.wd (side_pl B0 C0 a4 (h.w.r t a3))).z, side_pl B0 C0 a4 (h.w.r t a3)⟩
    exact ht_ret (e := .d (dT (partM us t sd))) (ev_callR (ed_cons (ev_var rfl) (ed_cons (ev_var rfl) (ed_cons (ev_var rfl) (ed_cons (ev_var rfl) ed_nil)))) ((m, n), dN m n ts, us, t, sd) rfl ⟨a4, (h.t.wd (side_pl B0 C0 a4 (h.w.r t a3))).z, hw⟩) ⟨_, rfl, if_pos hb⟩
abbrev clM (us : List P2) (t : P2) : List P2 := wayOf us (0, t.1) (1, t.2)
abbrev sp_closes (C : Addr) : Sp := spX C (fun x : ((Int × Int × List P2) × List P2) × (D × D) × D × P2 => [x.2.1.1, x.2.1.2, x.2.2.1])
  (fun x => WT x.1 x.2.1.1 x.2.1.2 ∧ okD 4 x.2.2.1 ∧ tupD x.2.2.1 = dP x.2.2.2 ∧ x.2.2.2 ∈ x.1.1.2.2 ∧ AllCon x.1.1.1 x.1.1.2.1 x.1.2)
  (fun x => if x.2.2.2 ∈ x.1.2 then none else some (dT (clM x.1.2 x.2.2.2)))
theorem ok_closes (c_sure_web : Cal P w K mg base CX0 6 "sure_web" s_sure_web ["web"] sp_sure_web) (c_sure_tree : Cal P w K mg base CX0 5 "sure_tree" s_sure_tree ["web", "tree"] sp_sure_tree) (c_sure_tie : Cal P w K mg base CX0 6 "sure_tie" s_sure_tie ["web", "tie"] sp_sure_tie) (c_way_in : Cal P w K mg base CX0 2 "way_in" s_way_in ["tree", "place", "other"] sp_way_in) (d : Dfx K mg "closes" s_closes ["web", "tree", "tie"]) : Cal P w K mg base (L2.CX P w) 7 "closes" s_closes ["web", "tree", "tie"] (sp_closes C) := d.cal fun f fd F => by
  refine fnX F sc_closes (fun _ => rfl) (by decide) fun cdv A outer s H E hr => ?_
  have hu64 := hr.units
  have hu65 := hu65_of hr
  have hu := hu_of hr
  have hu0 := hr.units0
  obtain ⟨f_sure_web, fd_sure_web, F_sure_web, m_sure_web, b_sure_web, ok_sure_web⟩ := c_sure_web
  obtain ⟨f_sure_tree, fd_sure_tree, F_sure_tree, m_sure_tree, b_sure_tree, ok_sure_tree⟩ := c_sure_tree
  obtain ⟨f_sure_tie, fd_sure_tie, F_sure_tie, m_sure_tie, b_sure_tie, ok_sure_tie⟩ := c_sure_tie
  obtain ⟨f_way_in, fd_way_in, F_way_in, m_way_in, b_way_in, ok_way_in⟩ := c_way_in
  have nd := sc_closes.nd
  refine ⟨_, (pss_cons (ps_set (i := 3) nd rfl (Or.inl rfl) (pe_call ok_sure_web (hr.mono (by decide)) rfl m_sure_web F_sure_web.kp b_sure_web .nil pass0 (pa_cons (pv 0) pa_nil)))
    (pss_cons (ps_set (i := 4) nd rfl (Or.inl rfl) (pe_call ok_sure_tree (hr.mono (by decide)) rfl m_sure_tree F_sure_tree.kp b_sure_tree .nil pass0 (pa_cons (pv 3) (pa_cons (pv 1) pa_nil))))
    (pss_cons (ps_set (i := 5) nd rfl (Or.inl rfl) (pe_call ok_sure_tie (hr.mono (by decide)) rfl m_sure_tie F_sure_tie.kp b_sure_tie .nil pass0 (pa_cons (pv 3) (pa_cons (pv 2) pa_nil))))
    (pss_cons (ps_if (pt_cmpR (k_inDT K rfl hu65) (pv 5) (pv 4) rfl) (pss_one (ps_raise rfl (takes_of rfl rfl rfl rfl) (pmk_own0 PySem.F.excBase_ValueError C0.x C0.g C0.k (raises_own C0.b C0.t) rfl))) pss_nil)
    (pss_one (ps_ret (pe_call ok_way_in (hr.mono (by decide)) rfl m_way_in F_way_in.kp b_way_in .nil pass0 (pa_cons (pv 4) (pa_cons (pe_tup (pa_cons pe_int (pa_cons (pe_ix (k_ixT K rfl) (pv 5) pe_int (fun _ _ => rfl)) pa_nil))) (pa_cons (pe_tup (pa_cons pe_int (pa_cons (pe_ix (k_ixT K rfl) (pv 5) pe_int (fun _ _ => rfl)) pa_nil))) pa_nil)))))))))), ?_⟩
  rintro B ⟨⟨⟨m, n, ts⟩, us⟩, ⟨d1, d2⟩, d3, t⟩ ⟨h, a1, a2, a3, a4⟩ hE
  dsimp only at a1 a2 a3 a4 hE
  refine ht_seq (ht_set (ev_callR (ed_cons (ev_var rfl) ed_nil) (d1, m, n, ts) rfl ⟨h.o1, h.e1, h.w⟩) ?_)
  refine ht_seq (ht_set (ev_callR (ed_cons (ev_var rfl) (ed_cons (ev_var rfl) ed_nil)) ((m, n, ts), d2, us) rfl ⟨h.o2, h.e2, h.t⟩) ?_)
  refine ht_seq (ht_set (ev_callR (ed_cons (ev_var rfl) (ed_cons (ev_var rfl) ed_nil)) ((m, n, ts), d3, t) rfl ⟨a1, a2, a3⟩) ?_)
  have r := h.w.r t a3
  have p0 : PlOk m n (0, t.1) := side_pl B0 C0 (.inl rfl) r
  have p1 : PlOk m n (1, t.2) := side_pl B0 C0 (.inr rfl) r
  refine ht_seq (ht_if (b := decide (t ∈ us)) (eb_test ((ev_op (ev_var rfl) (ev_var rfl) (ro_inT (shaped_pair t) (shaped_pairs us))).is (by rw [any_pair]))) (fun hb => ?_) fun hb => ht_next ?_)
  · have hb : t ∈ us := of_decide_eq_true hb
    rw [if_pos hb] at hE
    exact ht_raise (C := C) (W := fun cls d _ H => E cls d H) fun σ ts H s => hE rfl σ _ ts H s
  · have hb : t ∉ us := of_decide_eq_false hb
    exact ht_ret (e := .d (dT (clM us t))) (ev_callR (ed_cons (ev_var rfl) (ed_cons (ev_tupD (ds := [.int 0, .int t.1]) (ed_cons ev_int (ed_cons (ev_op (ev_var rfl) ev_int ix0) ed_nil)) (by show 2 ≤ 100000; decide)) (ed_cons (ev_tupD (ds := [.int 1, .int t.2]) (ed_cons ev_int (ed_cons (ev_op (ev_var rfl) ev_int ix1) ed_nil)) (by show 2 ≤ 100000; decide)) ed_nil))) ((m, n), us, (0, t.1), (1, t.2)) rfl ⟨h.t.wd p0, a4 _ _ p0 p1⟩) ⟨_, rfl, if_neg hb⟩
def chM (us : List P2) (put out : P2) : List P2 := sortP ((us.filter fun t => !decide (t = out)) ++ [put])
abbrev sp_changed (C : Addr) : Sp := spX C (fun x : ((Int × Int × List P2) × List P2) × (D × D) × (D × P2) × D × P2 => [x.2.1.1, x.2.1.2, x.2.2.1.1, x.2.2.2.1])
  (fun x => WT x.1 x.2.1.1 x.2.1.2 ∧ (okD 4 x.2.2.1.1 ∧ tupD x.2.2.1.1 = dP x.2.2.1.2 ∧ x.2.2.1.2 ∈ x.1.1.2.2) ∧ (okD 4 x.2.2.2.1 ∧ tupD x.2.2.2.1 = dP x.2.2.2.2 ∧ x.2.2.2.2 ∈ x.1.1.2.2) ∧ AllCon x.1.1.1 x.1.1.2.1 x.1.2)
  (fun x => if x.2.2.1.2 ∈ x.1.2 ∨ x.2.2.2.2 ∉ clM x.1.2 x.2.2.1.2 then none else some (dT (chM x.1.2 x.2.2.1.2 x.2.2.2.2)))
theorem ok_changed (c_sure_web : Cal P w K mg base CX0 6 "sure_web" s_sure_web ["web"] sp_sure_web) (c_sure_tree : Cal P w K mg base CX0 5 "sure_tree" s_sure_tree ["web", "tree"] sp_sure_tree) (c_sure_pair : Cal P w K mg base CX0 5 "sure_pair" s_sure_pair ["pair"] sp_sure_pair) (c_sure_tie : Cal P w K mg base CX0 6 "sure_tie" s_sure_tie ["web", "tie"] sp_sure_tie) (c_way_in : Cal P w K mg base CX0 2 "way_in" s_way_in ["tree", "place", "other"] sp_way_in) (d : Dfx K mg "changed" s_changed ["web", "tree", "put", "out"]) : Cal P w K mg base (L2.CX P w) 7 "changed" s_changed ["web", "tree", "put", "out"] (sp_changed C) := d.cal fun f fd F => by
  refine fnX F sc_changed (fun _ => rfl) (by decide) fun cdv A outer s H E hr => ?_
  have hu64 := hr.units
  have hu65 := hu65_of hr
  have hu := hu_of hr
  have hu0 := hr.units0
  obtain ⟨f_sure_web, fd_sure_web, F_sure_web, m_sure_web, b_sure_web, ok_sure_web⟩ := c_sure_web
  obtain ⟨f_sure_tree, fd_sure_tree, F_sure_tree, m_sure_tree, b_sure_tree, ok_sure_tree⟩ := c_sure_tree
  obtain ⟨f_sure_pair, fd_sure_pair, F_sure_pair, m_sure_pair, b_sure_pair, ok_sure_pair⟩ := c_sure_pair
  obtain ⟨f_sure_tie, fd_sure_tie, F_sure_tie, m_sure_tie, b_sure_tie, ok_sure_tie⟩ := c_sure_tie
  obtain ⟨f_way_in, fd_way_in, F_way_in, m_way_in, b_way_in, ok_way_in⟩ := c_way_in
  have nd := sc_changed.nd
  refine ⟨_, (pss_cons (ps_set (i := 4) nd rfl (Or.inl rfl) (pe_call ok_sure_web (hr.mono (by decide)) rfl m_sure_web F_sure_web.kp b_sure_web .nil pass0 (pa_cons (pv 0) pa_nil)))
    (pss_cons (ps_set (i := 5) nd rfl (Or.inl rfl) (pe_call ok_sure_tree (hr.mono (by decide)) rfl m_sure_tree F_sure_tree.kp b_sure_tree .nil pass0 (pa_cons (pv 4) (pa_cons (pv 1) pa_nil))))
    (pss_cons (ps_asg (pe_tup (pa_cons (pe_call ok_sure_pair (hr.mono (by decide)) rfl m_sure_pair F_sure_pair.kp b_sure_pair .nil pass0 (pa_cons (pv 2) pa_nil)) (pa_cons (pe_call ok_sure_pair (hr.mono (by decide)) rfl m_sure_pair F_sure_pair.kp b_sure_pair .nil pass0 (pa_cons (pv 3) pa_nil)) pa_nil))) (k_tup (n := 2) K rfl rfl (pgs_cons (pg_name (i := 6) nd rfl (by first | exact Or.inl rfl | exact Or.inr rfl)) (pgs_cons (pg_name (i := 7) nd rfl (by first | exact Or.inl rfl | exact Or.inr rfl)) pgs_nil))))
    (pss_cons (ps_asg (pe_tup (pa_cons (pe_call ok_sure_tie (hr.mono (by decide)) rfl m_sure_tie F_sure_tie.kp b_sure_tie .nil pass0 (pa_cons (pv 4) (pa_cons (pv 6) pa_nil))) (pa_cons (pe_call ok_sure_tie (hr.mono (by decide)) rfl m_sure_tie F_sure_tie.kp b_sure_tie .nil pass0 (pa_cons (pv 4) (pa_cons (pv 7) pa_nil))) pa_nil))) (k_tup (n := 2) K rfl rfl (pgs_cons (pg_name (i := 6) nd rfl (by first | exact Or.inl rfl | exact Or.inr rfl)) (pgs_cons (pg_name (i := 7) nd rfl (by first | exact Or.inl rfl | exact Or.inr rfl)) pgs_nil))))
    (pss_cons (ps_if (PW.pt (pw_or (pt_cmpR (k_inDT K rfl hu65) (pv 6) (pv 5) rfl) (pw_or1 (pt_cmpR (k_notInDT K rfl hu65) (pv 7) (pe_call ok_way_in (hr.mono (by decide)) rfl m_way_in F_way_in.kp b_way_in .nil pass0 (pa_cons (pv 5) (pa_cons (pe_tup (pa_cons pe_int (pa_cons (pe_ix (k_ixT K rfl) (pv 6) pe_int (fun _ _ => rfl)) pa_nil))) (pa_cons (pe_tup (pa_cons pe_int (pa_cons (pe_ix (k_ixT K rfl) (pv 6) pe_int (fun _ _ => rfl)) pa_nil))) pa_nil)))) rfl)))) (pss_one (ps_raise rfl (takes_of rfl rfl rfl rfl) (pmk_own0 PySem.F.excBase_ValueError C0.x C0.g C0.k (raises_own C0.b C0.t) rfl))) pss_nil)
    (pss_one (ps_ret (pe_callTy (k_tuple K rfl) rfl B0.tuple (by decide +kernel) (pa_cons (pe_callB (cr_sortT (d := 2) (B := 64) (by decide)) rfl B0.sorted (by decide +kernel) (pa_cons (pe_op op_cat (pe_lc (own := [("tie", 8)]) rfl nd (k_iT K rfl (pv 5)) (blkOk_by (N := ["web", "tree", "put", "out", "own", "told", "near", "far", "tie"]) (sc := defScope s_changed) (own := [("tie", 8)]) (by decide +kernel)) (fun _ _ _ _ _ => (pg_name (i := 8) nd rfl (by first | exact Or.inl rfl | exact Or.inr rfl))) (fun _ _ _ _ _ => pts_one (pt_cmpR (k_neD K rfl hu64) (pv 8) (pv 7) (nomark _))) (fun _ _ _ _ _ => (pv 8))) (pe_lst (pa_cons (pv 6) pa_nil))) pa_nil)) pa_nil))))))))), ?_⟩
  rintro B ⟨⟨⟨m, n, ts⟩, us⟩, ⟨d1, d2⟩, ⟨d3, put⟩, d4, out⟩ ⟨h, ⟨a1, a2, a3⟩, ⟨b1, b2, b3⟩, a4⟩ hE
  dsimp only at a1 a2 a3 b1 b2 b3 a4 hE
  refine ht_seq (ht_set (ev_callR (ed_cons (ev_var rfl) ed_nil) (d1, m, n, ts) rfl ⟨h.o1, h.e1, h.w⟩) ?_)
  refine ht_seq (ht_set (ev_callR (ed_cons (ev_var rfl) (ed_cons (ev_var rfl) ed_nil)) ((m, n, ts), d2, us) rfl ⟨h.o2, h.e2, h.t⟩) ?_)
  refine ht_seq (ht_asg (ev_tupD (ds := [dP put, dP out]) (ed_cons (ev_callR (ed_cons (ev_var rfl) ed_nil) (d3, put) rfl ⟨a1, a2⟩) (ed_cons (ev_callR (ed_cons (ev_var rfl) ed_nil) (d4, out) rfl ⟨b1, b2⟩) ed_nil)) (by show 2 ≤ 100000; decide)) eg_tup2 ?_)
  refine ht_seq (ht_asg (ev_tupD (ds := [dP put, dP out]) (ed_cons (ev_callR (ed_cons (ev_var rfl) (ed_cons (ev_var rfl) ed_nil)) ((m, n, ts), dP put, put) rfl ⟨okD_pair B0 put, rfl, a3⟩) (ed_cons (ev_callR (ed_cons (ev_var rfl) (ed_cons (ev_var rfl) ed_nil)) ((m, n, ts), dP out, out) rfl ⟨okD_pair B0 out, rfl, b3⟩) ed_nil)) (by show 2 ≤ 100000; decide)) eg_tup2 ?_)
  have r := h.w.r put a3
  have p0 : PlOk m n (0, put.1) := side_pl B0 C0 (.inl rfl) r
  have p1 : PlOk m n (1, put.2) := side_pl B0 C0 (.inr rfl) r
  have hw := h.t.wd p0
  have hl : us.length < 64 := by have := h.t.l; have := h.t.mn; dsimp only at *; clear hu64 hu65 hu hu0; omega
  have bd : ∀ t, InR m n t → BdP t := fun t r => by have := h.t.mn; unfold BdP; dsimp only at *; clear hu64 hu65 hu hu0; omega
  refine ht_seq (ht_if (b := decide (put ∈ us) || !decide (out ∈ clM us put)) (eb_or (eb_test ((ev_op (ev_var rfl) (ev_var rfl) (ro_inT (shaped_pair put) (shaped_pairs us))).is (by rw [any_pair]))) fun _ => eb_test ((ev_op (ev_var rfl) (ev_callR (ed_cons (ev_var rfl) (ed_cons (ev_tupD (ds := [.int 0, .int put.1]) (ed_cons ev_int (ed_cons (ev_op (ev_var rfl) ev_int ix0) ed_nil)) (by show 2 ≤ 100000; decide)) (ed_cons (ev_tupD (ds := [.int 1, .int put.2]) (ed_cons ev_int (ed_cons (ev_op (ev_var rfl) ev_int ix1) ed_nil)) (by show 2 ≤ 100000; decide)) ed_nil))) ((m, n), us, (0, put.1), (1, put.2)) rfl ⟨hw, a4 _ _ p0 p1⟩) (ro_notInT (shaped_pair out) (shaped_pairs _))).is (by rw [any_pair]))) (fun hb => ?_) fun hb => ht_next ?_)
  · have hb : put ∈ us ∨ out ∉ clM us put := by
      rw [Bool.or_eq_true, Bool.not_eq_true'] at hb
      exact hb.elim (fun z => .inl (of_decide_eq_true z)) fun z => .inr (of_decide_eq_false z)
    rw [if_pos hb] at hE
    exact ht_raise (C := C) (W := fun cls d _ H => E cls d H) fun σ ts H s => hE rfl σ _ ts H s
  · have hb : ¬(put ∈ us ∨ out ∉ clM us put) := by
      rw [Bool.or_eq_false_iff, Bool.not_eq_false'] at hb
      rintro (z | z)
      · exact (of_decide_eq_false hb.1) z
      · exact z (of_decide_eq_true hb.2)
    refine ht_ret (e := .d (dT (chM us put out))) ?_ ⟨_, rfl, if_neg hb⟩
    have hll : (us.filter fun t => !decide (t = out)).length ≤ us.length := List.length_filter_le _ _
    have hcat : PyData.list ((us.filter fun t => !decide (t = out)).map dP ++ [dP put]) = dL ((us.filter fun t => !decide (t = out)) ++ [put]) := by show _ = PyData.list _; rw [List.map_append]; rfl
    refine ev_cbD (ed_cons (ev_sortedL (ps := (us.filter fun t => !decide (t = out)) ++ [put]) ((ev_op (ev_lcF (xs := us) (c := dP) (fun t => !decide (t = out)) dP (ei_tup (ev_var rfl)) (hv1 rfl) hj1 (by clear hu64 hu65 hu hu0; omega) fun t ht => ⟨_, eg_name, eb_test ((ev_op (ev_var rfl) (ev_var rfl) (ro_neD (shaped_pair t) (shaped_pair out))).is (by rw [eqv_pair])), fun _ => ev_var rfl⟩) (ev_lstD (ds := [dP put]) (ed_cons (ev_var rfl) ed_nil) (by show 1 ≤ 100000; decide)) (ro_cat (by rw [List.length_map]; show _ + 1 ≤ _; clear hu64 hu65 hu hu0; omega))).is (congrArg En.d hcat)) ?_ fun p hp => ?_) ed_nil) rc_tupL
    · have h64 : us.length ≤ 62 := by have := h.t.l; have := h.t.mn; dsimp only at *; clear hu64 hu65 hu hu0; omega
      rw [List.length_append]; show _ + 1 < 64; clear hu64 hu65 hu hu0; omega
    · rcases List.mem_append.mp hp with z | z
      · exact bd p (h.t.r p (List.mem_filter.mp z).1)
      · rw [List.mem_singleton.mp z]; exact bd put r
end
end G

set_option Elab.async false
set_option linter.all false
set_option maxRecDepth 100000
set_option maxHeartbeats 4000000
namespace G
open PySem L2
abbrev s__law_heard : Stmt := top 56
theorem sc__law_heard : FnScope ["_law_door", "_law_net_here", "_law_boughs", "_law_one", "_law_two", "error"] ["_law_door", "_law_net_here", "_law_boughs", "_law_one", "_law_two"] (defScope s__law_heard) := ⟨rfl, rfl, rfl, by decide +kernel, rfl, by decide +kernel, by decide +kernel⟩
/-- what is asked of a door -/
inductive Ask where
  | part (t : P2) (s : Int)
  | close (t : P2)
  | change (put out : P2)
def Ask.door : Ask → Int
  | .part _ _ => 0
  | .close _ => 1
  | .change _ _ => 2
def Ask.pre (ts : List P2) (d3 d4 : D) : Ask → Prop
  | .part t s => (okD 4 d3 ∧ tupD d3 = dP t ∧ t ∈ ts) ∧ (s = 0 ∨ s = 1) ∧ d4 = .int s
  | .close t => okD 4 d3 ∧ tupD d3 = dP t ∧ t ∈ ts
  | .change put out => (okD 4 d3 ∧ tupD d3 = dP put ∧ put ∈ ts) ∧ okD 4 d4 ∧ tupD d4 = dP out ∧ out ∈ ts
def Ask.res (us : List P2) : Ask → Option (List P2)
  | .part t s => if t ∈ us then some (partM us t s) else none
  | .close t => if t ∈ us then none else some (clM us t)
  | .change put out => if put ∈ us ∨ out ∉ clM us put then none else some (chM us put out)
theorem res_part {us : List P2} {t : P2} {s : Int} : Ask.res us (.part t s) = if t ∈ us then some (partM us t s) else none := rfl
theorem res_close {us : List P2} {t : P2} : Ask.res us (.close t) = if t ∈ us then none else some (clM us t) := rfl
theorem res_change {us : List P2} {put out : P2} : Ask.res us (.change put out) = if put ∈ us ∨ out ∉ clM us put then none else some (chM us put out) := rfl
def heardD : Option (List P2) → D
  | some w => dT w
  | none => .list [.str "cannot", .bool true]
def tHeard (K : PySem.W.Frag) (C a : Addr) (cls : Value) (d : Option Addr) : TS := fun Dn σ H => (cls = .ref C ∧ d = none) ∧ tRet (tLst (tCons (tC (.str "cannot")) (tCons (tCB (rIsE K C a) (tCons (tVar 5) (tCons (tC (.ty "ValueError")) tNil))) tNil))) Dn σ H
theorem ht_run {B : Bs} {t : TS} {Γ : List En} {N : List En → Prop} {R : List En → En → Prop} {σ : L2.St} {ts : List Cell} {H : Hp} {Dn : Ends} (h : HT B t Γ N R) (s : Stt B σ Γ ts H) (n : ∀ Γ' σ' H', N Γ' → Stt B σ' Γ' ts H' → Dn.nx σ' H')
    (r : ∀ Γ' e σ' v H', R Γ' e → Stt B σ' Γ' ((some v, e) :: ts) H' → Dn.rt v H') : t Dn σ H := h σ ts H Dn s n r
section
variable {P : Program} {w : World} {K : PySem.W.Frag} {mg : Str → Option Value} {base : Heap} {x : Str} {st : Stmt} {f : Addr} {fd : FuncData} {N ps : List Str} {k : Nat}
/-- .. no temporaries at the start -/
theorem fnR0 {α : Type} {shape : α → List D} {pre : α → Prop} {res : α → D} (F : Fun K x x st f fd) (S : FnScope N ps (defScope st)) (hn : ∀ x, (shape x).length = ps.length) (hN : ps.length ≤ N.length)
    (body : ∀ (cdv : Value) (A : Around) (outer : List PySem.Env) (s : Shared) (H : Hp) (E : XK), Room k (A.deeper (PyProof.Rows.envOfC x (defScope st) s.heap.objs.size f cdv)) →
      ∃ t, PSs (cxOf CX0 P w K mg base N x (defScope st) f cdv A outer s H E).nox (defBody st) t ∧
        ∀ (B : Bs) x, pre x → ∀ σ H (Dn : Ends), Stt B σ ((shape x).map En.d ++ List.replicate (N.length - (shape x).length) En.un) [] H → (∀ (Γ' : List En) σ' H', False → Stt B σ' Γ' [] H' → Dn.nx σ' H') →
          (∀ (Γ' : List En) e σ' v H', e = .d (res x) → Stt B σ' Γ' [(some v, e)] H' → Dn.rt v H') → t Dn σ H) :
    FnOk P w K mg base CX0 (k + 1) f fd ps (spR shape pre res) := by
  refine F.ok S (fun vs H Q E ⟨I, x, sI, hd, hp, q⟩ => by rw [hd.length]; exact hn x) fun cdv A outer s H vs Q E hr ⟨I, x, sI, hd, hp, q⟩ => ?_
  obtain ⟨t, ht, hb⟩ := body cdv A outer s H E hr
  refine ⟨t, ht, ?_⟩
  have s0 := stt_start (K := K) N sI hd (by rw [hn x]; exact hN)
  refine hb _ x hp _ H _ s0 (fun Γ' σ' H' hN s' => hN.elim) fun Γ' e σ' v H' ed s' => ?_
  subst ed
  obtain ⟨hl, I', g, k, _⟩ := s'.one
  exact q v I' H' _ g rfl k
end
section
variable {P : Program} {w : World} {K : PySem.W.Frag} {mg : Str → Option Value} {base : Heap} {C : Addr} (B0 : Bi mg) (C0 : CanNot K mg C)
include B0 C0
theorem heard_suite {B : Bs} {Γ : List En} {R : List En → En → Prop} {σ : L2.St} {ts : List Cell} {H : Hp} {Dn : Ends} {W0 : WX} (s : Stt B σ Γ ts H) (hR : R Γ (.d (heardD none))) (hu : Γ[5]? = some .un)
    (r : ∀ Γ' e σ' v H', R Γ' e → Stt B σ' Γ' ((some v, e) :: ts) H' → Dn.rt v H') : wAs K (.ref C) 5 (tHeard K C) W0 Dn (.ref C) none σ H := by
  refine ⟨true, C0.m, fun _ a ha => ⟨⟨rfl, rfl⟩, ?_⟩, fun z => nomatch z⟩
  have hlen : 5 < σ.length := by rw [s.1]; exact (List.getElem?_eq_some_iff.mp hu).1
  have s1 : Stt B (σ.set 5 (some (.ref a))) Γ ts H := s.to (by rw [List.length_set]; exact s.1) rfl fun j e hj => by
    by_cases h5 : j = 5
    · subst h5; rw [hu] at hj; exact .inl (Option.some.inj hj).symm
    · exact .inr ⟨hj, by rw [List.getElem?_set_ne (fun z => h5 z.symm)]⟩
  refine ⟨.ref a, List.getElem?_set_self hlen, .ty "ValueError", .type "ValueError", true, rfl, ?_, C0.q, ?_⟩
  · intro u hu; cases hu; rfl
  refine ⟨sz_of (by show 2 ≤ 100000; decide), fun p hp => ?_⟩
  obtain ⟨hl, I, g, e⟩ := s1
  refine r Γ _ _ _ _ hR (Stt.fin hl g e (Gr.new g.s hp) (.lst upd_same (.cons (.str _) (.cons (.bl _) .nil))))
abbrev sp__law_heard : Sp := spR (fun x : ((Int × Int × List P2) × List P2) × (D × D) × (D × D) × Ask => [.int x.2.2.2.door, x.2.1.1, x.2.1.2, x.2.2.1.1, x.2.2.1.2])
  (fun x => WT x.1 x.2.1.1 x.2.1.2 ∧ AllCon x.1.1.1 x.1.1.2.1 x.1.2 ∧ x.2.2.2.pre x.1.1.2.2 x.2.2.1.1 x.2.2.1.2) (fun x => heardD (x.2.2.2.res x.1.2))
theorem ok__law_heard (c_part : Cal P w K mg base (L2.CX P w) 7 "part" s_part ["web", "tree", "tie", "side"] (sp_part C)) (c_closes : Cal P w K mg base (L2.CX P w) 7 "closes" s_closes ["web", "tree", "tie"] (sp_closes C)) (c_changed : Cal P w K mg base (L2.CX P w) 7 "changed" s_changed ["web", "tree", "put", "out"] (sp_changed C)) (d : Dfx K mg "_law_heard" s__law_heard ["_law_door", "_law_net_here", "_law_boughs", "_law_one", "_law_two"]) : Cal P w K mg base CX0 8 "_law_heard" s__law_heard ["_law_door", "_law_net_here", "_law_boughs", "_law_one", "_law_two"] sp__law_heard := d.cal fun f fd F => by
  refine fnR0 F sc__law_heard (fun _ => rfl) (by decide) fun cdv A outer s H E hr => ?_
  have hu64 := hr.units
  have hu65 := hu65_of hr
  have hu := hu_of hr
  have hu0 := hr.units0
  obtain ⟨f_part, fd_part, F_part, m_part, b_part, ok_part⟩ := c_part
  obtain ⟨f_closes, fd_closes, F_closes, m_closes, b_closes, ok_closes⟩ := c_closes
  obtain ⟨f_changed, fd_changed, F_changed, m_changed, b_changed, ok_changed⟩ := c_changed
  have nd := sc__law_heard.nd
  refine ⟨_, (pss_one (ps_try_as (i := 5) (ts := tHeard K C) (Wout := fun _ _ _ _ => False) rfl rfl nd rfl rfl ⟨rfl, by decide, Or.inl C0.g⟩ takes0 (fun W pn xe tk _ => (pss_cons (ps_if (pt_cmpR (k_eqD K rfl hu64) (pv 0) pe_int (nomark _)) (pss_one (ps_ret (pe_callS ok_part (hr.mono (by decide)) rfl m_part F_part.kp b_part (fun σ => passAt tk σ) (pa_cons (pv 1) (pa_cons (pv 2) (pa_cons (pv 3) (pa_cons (pv 4) pa_nil))))))) pss_nil)
    (pss_one (ps_ret (pe_ifExp (pt_cmpR (k_eqD K rfl hu64) (pv 0) pe_int (nomark _)) (pe_callS ok_closes (hr.mono (by decide)) rfl m_closes F_closes.kp b_closes (fun σ => passAt tk σ) (pa_cons (pv 1) (pa_cons (pv 2) (pa_cons (pv 3) pa_nil)))) (pe_callS ok_changed (hr.mono (by decide)) rfl m_changed F_changed.kp b_changed (fun σ => passAt tk σ) (pa_cons (pv 1) (pa_cons (pv 2) (pa_cons (pv 3) (pa_cons (pv 4) pa_nil)))))))))) (fun a oe cls d pn hz hf => pss_pure fun hp => by obtain ⟨rfl, rfl⟩ := hp; exact pss_one (ps_ret (pe_lst (pa_cons pe_str (pa_cons (pe_callB (call_isE C0.e hz hf) rfl B0.isinstance (by decide +kernel) (pa_cons (pv 5) (pa_cons (pe_bltn (v := .ty "ValueError") rfl B0.ValueError (by decide +kernel) rfl) pa_nil))) pa_nil))))))), ?_⟩
  rintro B ⟨⟨⟨m, n, ts⟩, us⟩, ⟨d1, d2⟩, ⟨d3, d4⟩, ask⟩ ⟨h, hc, hp⟩
  dsimp only at hc hp
  intro σ H Dn s nn r
  have door : ∀ {i : Int}, EvB B (tTest (tOp (rEqD K) (tVar 0) (tC (.int i)))) ([.d (.int ask.door), .d d1, .d d2, .d d3, .d d4, .un]) (decide (ask.door = i)) := fun {i} => eb_test ((ev_op (ev_var rfl) ev_int (ro_eqD (shaped_int _) (shaped_int _))).is (by rw [eqv_int]))
  refine ht_run (N := fun _ => False) (R := fun _ e => e = .d (heardD (ask.res us))) (ht_seq (ht_if door (fun hb => ?_) fun hb => ht_next ?_)) s (fun _ _ _ z _ => z.elim) r
  · cases ask with
    | part t sd =>
      obtain ⟨⟨a1, a2, a3⟩, a4, rfl⟩ := hp
      by_cases ht : t ∈ us
      · exact ht_ret' (ev_callS (ed_cons (ev_var rfl) (ed_cons (ev_var rfl) (ed_cons (ev_var rfl) (ed_cons (ev_var rfl) ed_nil)))) (((m, n, ts), us), (d1, d2), (d3, t), sd) rfl ⟨h, a1, a2, a3, a4⟩ (if_pos ht)) (by rw [res_part, if_pos ht]; rfl) rfl
      · exact ht_retZ (ez_callS (ed_cons (ev_var rfl) (ed_cons (ev_var rfl) (ed_cons (ev_var rfl) (ed_cons (ev_var rfl) ed_nil)))) (((m, n, ts), us), (d1, d2), (d3, t), sd) rfl ⟨h, a1, a2, a3, a4⟩ (if_neg ht) fun σ ts2 H s => heard_suite B0 C0 (s.sub (List.nil_sublist _)) (R := fun _ e => e = .d (heardD (Ask.res us (.part t sd)))) (by rw [res_part, if_neg ht]) rfl r)
    | close t => cases hb
    | change put out => cases hb
  · cases ask with
    | part t sd => cases hb
    | close t =>
      obtain ⟨a1, a2, a3⟩ := hp
      by_cases ht : t ∈ us
      · exact ht_retZ (ez_if (b := true) door (fun _ => ez_callS (ed_cons (ev_var rfl) (ed_cons (ev_var rfl) (ed_cons (ev_var rfl) ed_nil))) (((m, n, ts), us), (d1, d2), d3, t) rfl ⟨h, a1, a2, a3, hc⟩ (if_pos ht) fun σ ts2 H s => heard_suite B0 C0 (s.sub (List.nil_sublist _)) (R := fun _ e => e = .d (heardD (Ask.res us (.close t)))) (by rw [res_close, if_pos ht]) rfl r) fun z => nomatch z)
      · exact ht_ret' (ev_if (b := true) door (fun _ => ev_callS (ed_cons (ev_var rfl) (ed_cons (ev_var rfl) (ed_cons (ev_var rfl) ed_nil))) (((m, n, ts), us), (d1, d2), d3, t) rfl ⟨h, a1, a2, a3, hc⟩ (if_neg ht)) fun z => nomatch z) (by rw [res_close, if_neg ht]; rfl) rfl
    | change put out =>
      obtain ⟨⟨a1, a2, a3⟩, b1, b2, b3⟩ := hp
      by_cases ht : put ∈ us ∨ out ∉ clM us put
      · exact ht_retZ (ez_if (b := false) door (fun z => nomatch z) fun _ => ez_callS (ed_cons (ev_var rfl) (ed_cons (ev_var rfl) (ed_cons (ev_var rfl) (ed_cons (ev_var rfl) ed_nil)))) (((m, n, ts), us), (d1, d2), (d3, put), d4, out) rfl ⟨h, ⟨a1, a2, a3⟩, ⟨b1, b2, b3⟩, hc⟩ (if_pos ht) fun σ ts2 H s => heard_suite B0 C0 (s.sub (List.nil_sublist _)) (R := fun _ e => e = .d (heardD (Ask.res us (.change put out)))) (by rw [res_change, if_pos ht]) rfl r)
      · exact ht_ret' (ev_if (b := false) door (fun z => nomatch z) fun _ => ev_callS (ed_cons (ev_var rfl) (ed_cons (ev_var rfl) (ed_cons (ev_var rfl) (ed_cons (ev_var rfl) ed_nil)))) (((m, n, ts), us), (d1, d2), (d3, put), d4, out) rfl ⟨h, ⟨a1, a2, a3⟩, ⟨b1, b2, b3⟩, hc⟩ (if_neg ht)) (by rw [res_change, if_neg ht]; rfl) rfl
end
end G

set_option Elab.async false
set_option linter.all false
set_option maxRecDepth 100000
set_option maxHeartbeats 4000000
/-! Dat8: readings that draw: the entries may change, the answer is some datum. -/
namespace G
open PySem L2
def EvXd (B : Bs) (te : TE) (Γ : List En) (R : List En → D → Prop) : Prop := ∀ σ ts H, Stt B σ Γ ts H → ∀ Q : VK, (∀ Γ' d v H', R Γ' d → Stt B σ Γ' ((some v, .d d) :: ts) H' → Q v H') → te σ H Q
def EvXA (B : Bs) (ta : TA) (Γ : List En) (R : List En → List D → Prop) : Prop := ∀ σ ts H, Stt B σ Γ ts H → ∀ Q : List V → Hp → Prop, (∀ Γ' ds vs H', R Γ' ds → vs.length = ds.length → Stt B σ Γ' ((vs.map some).zip (ds.map En.d) ++ ts) H' → Q vs H') → ta σ H Q
def EvXB (B : Bs) (tt : TT) (Γ : List En) (R : List En → Bool → Prop) : Prop := ∀ σ ts H, Stt B σ Γ ts H → ∀ Q : Bool → Hp → Prop, (∀ Γ' b H', R Γ' b → Stt B σ Γ' ts H' → Q b H') → tt σ H Q
def EvXI (B : Bs) (wi : TI) (Γ : List En) (P : List En → List D → Prop) : Prop := ∀ σ ts H, Stt B σ Γ ts H → ∀ R : It → Hp → Prop, (∀ Γ' ds J src H', P Γ' ds → JOk B J src ds → Stt B σ Γ' (src ++ ts) H' → R J H') → wi σ H R
section
variable {B : Bs} {Γ Γ' : List En} {ta tb te tx ty tv : TE} {tt tu : TT} {tA tr : TA} {t u : TS} {a b d x y : D} {ds : List D} {R : List En → D → Prop} {N : List En → Prop} {Rr : List En → En → Prop} {K : PySem.W.Frag} {i j : Nat}
theorem xd_of (h : EvE B te Γ (.d d)) (r : R Γ d) : EvXd B te Γ R := fun σ ts H s Q q => h σ ts H s _ fun v H1 s1 => q Γ d v H1 r s1
theorem xd_mono {R' : List En → D → Prop} (h : EvXd B te Γ R') (k : ∀ Γ' d, R' Γ' d → R Γ' d) : EvXd B te Γ R := fun σ ts H s Q q => h σ ts H s _ fun Γ' d v H1 r s1 => q Γ' d v H1 (k _ _ r) s1
theorem xd_op {r : R2} {R1 : List En → D → Prop} (ha : EvXd B ta Γ R1) (hb : ∀ Γ1 a, R1 Γ1 a → EvXd B tb Γ1 fun Γ2 b => ∃ d, RO r a b d ∧ R Γ2 d) : EvXd B (tOp r ta tb) Γ R := fun σ ts H s Q q =>
  ha σ ts H s _ fun Γ1 a v H1 r1 s1 => hb Γ1 a r1 σ _ H1 s1 _ fun Γ2 b w H2 ⟨d, ro, rd⟩ s2 => by
    obtain ⟨hl, I, g, k1, k2, e⟩ := s2.two
    exact ro I H2 v w Q g.s k1 k2 fun z I' H' g' k => q Γ2 d z H' rd (Stt.fin hl g e g' k)
theorem xa_nil {R : List En → List D → Prop} (r : R Γ []) : EvXA B tNil Γ R := fun σ ts H s Q q => q Γ [] [] H r rfl s
theorem xa_cons {R : List En → List D → Prop} {R1 : List En → D → Prop} (h : EvXd B te Γ R1) (hr : ∀ Γ1 d, R1 Γ1 d → EvXA B tr Γ1 fun Γ2 ds => R Γ2 (d :: ds)) : EvXA B (tCons te tr) Γ R := fun σ ts H s Q q =>
  h σ ts H s _ fun Γ1 d v H1 r1 s1 => hr Γ1 d r1 σ _ H1 s1 _ fun Γ2 ds vs H2 r2 hn s2 => q Γ2 (d :: ds) (v :: vs) H2 r2 (by simp [hn]) (s2.perm List.perm_middle)
theorem xd_tup (h : EvXA B tA Γ fun Γ' ds => ds.length ≤ 100000 ∧ R Γ' (.tuple ds)) : EvXd B (tTup tA) Γ R := fun σ ts H s Q q =>
  h σ ts H s _ fun Γ' ds vs H1 ⟨hn, r⟩ hl s1 => by
    obtain ⟨h0, I, g, k, e⟩ := s1.args hl
    exact ⟨sz_of (by rw [hl]; exact hn), fun p hp => q Γ' _ _ _ r (Stt.fin h0 g e (Gr.new g.s hp) (.tup upd_same (k.mono (same_new _ (none_of_same g.s hp)))))⟩
theorem xd_cb {r : List V → Hp → VK → Prop} (h : EvXA B tA Γ fun Γ' ds => ∃ d, RC r ds d ∧ R Γ' d) : EvXd B (tCB r tA) Γ R := fun σ ts H s Q q =>
  h σ ts H s _ fun Γ' ds vs H1 ⟨d, rc, r⟩ hl s1 => by
    obtain ⟨h0, I, g, k, e⟩ := s1.args hl
    exact rc I H1 vs Q g.s k fun z I' H' g' k' => q Γ' d z H' r (Stt.fin h0 g e g' k')
theorem xd_callF {α : Type} {shape : α → List D} {pre : α → Prop} {post : α → D → Prop} {E : XK} (h : EvXA B tA Γ fun Γ' ds => ∃ x, ds = shape x ∧ pre x ∧ ∀ d, post x d → R Γ' d) : EvXd B (tCall (spF shape pre post) [] E tA) Γ R := fun σ ts H s Q q =>
  h σ ts H s _ fun Γ' ds vs H1 ⟨x, e, hp, r⟩ hl s1 => by
    obtain ⟨h0, I, g, k, e'⟩ := s1.args hl
    show spF shape pre post (vs ++ []) H1 Q E
    rw [List.append_nil]
    exact ⟨I, x, g.s, e ▸ k, hp, fun v I' H' d' g' pd k' => q Γ' d' v H' (r d' pd) (Stt.fin h0 g e' g' k')⟩
theorem xd_callT {n c : Nat} {Pre : List D → Prop} {Post : List D → D → Prop} {E : XK} (ht : Γ[i]? = some (.m (.tin n))) (h : EvD B tA Γ ds) (hp : Pre ds) (hc : n + c ≤ 2 ^ 40) (r : ∀ d, Post ds d → R (Γ.set i (.m (.tin (n + c)))) d) :
    EvXd B (tCall (spT c Pre Post) [] E (tCons (tVar i) tA)) Γ R := fun σ ts H s Q q => ev_callT ht h hp hc σ ts H s _ fun Γ' e v H' ⟨e1, d, e2, pd⟩ s' => by
  subst e1 e2
  exact q _ d v H' (r d pd) s'
theorem xd_callT1 {n c : Nat} {Pre : List D → Prop} {Post : List D → D → Prop} {E : XK} (ht : Γ[i]? = some (.m (.tin n))) (hj : Γ[j]? = some (.m (.l ds))) (hij : i ≠ j) (hp : Pre [.list ds]) (hc : n + c ≤ 2 ^ 40) (hq : ∀ d, Post [.list ds] d → ∃ z : Int, d = .int z)
    (r : ∀ d, Post [.list ds] d → R (Γ.set i (.m (.tin (n + c)))) d) : EvXd B (tCall (spT c Pre Post) [] E (tCons (tVar i) (tCons (tVar j) tNil))) Γ R := fun σ ts H s Q q => ev_callT1 ht hj hij hp hc hq σ ts H s _ fun Γ' e v H' ⟨e1, d, e2, pd⟩ s' => by
  subst e1 e2
  exact q _ d v H' (r d pd) s'
/-! tests -/
theorem xb_test (h : EvXd B te Γ fun Γ' d => ∃ b, d = .bool b ∧ R Γ' (.bool b)) : EvXB B (tTest te) Γ fun Γ' b => R Γ' (.bool b) := fun σ ts H s Q q => h σ ts H s _ fun Γ' d v H1 ⟨b, e, r⟩ s1 => by
  subst e
  have k := s1.top
  cases k
  exact ⟨_, rfl, q Γ' b H1 r s1.pop⟩
theorem xd_boolT {R : List En → Bool → Prop} (h : EvXd B te Γ fun Γ' d => ∃ b, d = .bool b ∧ R Γ' b) : EvXB B (tTest te) Γ R := fun σ ts H s Q q => h σ ts H s _ fun Γ' d v H1 ⟨b, e, r⟩ s1 => by
  subst e
  have k := s1.top
  cases k
  exact ⟨_, rfl, q Γ' b H1 r s1.pop⟩
theorem ht_ifX {R : List En → Bool → Prop} (h : EvXB B tt Γ R) (h1 : ∀ Γ', R Γ' true → HT B t Γ' N Rr) (h2 : ∀ Γ', R Γ' false → HT B u Γ' N Rr) : HT B (tIfS tt t u) Γ N Rr := fun σ ts H Dn s n r => h σ ts H s _ fun Γ' b H1 rb s1 => by
  cases b with
  | true => exact h1 Γ' rb σ ts H1 Dn s1 n r
  | false => exact h2 Γ' rb σ ts H1 Dn s1 n r
/-! statements -/
theorem ht_setD (h : EvXd B te Γ fun Γ' d => N (Γ'.set i (.d d))) : HT B (tAsg te (gName i)) Γ N Rr := fun σ ts H Dn s n r => h σ ts H s _ fun Γ' d v H1 k s1 => n _ _ H1 k (Stt.set s1)
theorem ht_retD (h : EvXd B te Γ fun Γ' d => Rr Γ' (.d d)) : HT B (tRet te) Γ N Rr := fun σ ts H Dn s n r => h σ ts H s _ fun Γ' d v H1 k s1 => r Γ' _ σ v H1 k s1
theorem ht_parD (h : EvXA B tA Γ fun Γ' ds => ∃ d e, ds = [d, e] ∧ N ((Γ'.set i (.d d)).set j (.d e))) : HT B (tPar i j tA) Γ N Rr := fun σ ts H Dn s n r =>
  h σ ts H s _ fun Γ' ds vs H1 ⟨d, e, ed, k⟩ hl s1 => by
    subst ed
    match vs, hl with
    | [v, w], _ => exact ⟨v, w, rfl, n _ _ H1 k (Stt.set (Stt.set s1))⟩
theorem ht_asgD {g : TG} {js : List Nat} (h : EvXd B te Γ fun Γ1 d => ∃ Γ', EvG B g Γ1 d Γ' js ∧ N Γ') : HT B (tAsg te g) Γ N Rr := fun σ ts H Dn s n r =>
  h σ ts H s _ fun Γ1 d v H1 ⟨Γ', eg, k⟩ s1 => eg.2 _ _ _ _ s1 _ fun σ2 _ _ s2 => n Γ' σ2 H1 k s2
theorem Stt.outs {σ : L2.St} {ts : List Cell} {H : Hp} {ds : List D} (s : Stt B σ Γ ts H) (h : Γ[i]? = some (.m (.l ds))) : ∃ p xs, σ[i]? = some (some (.ref p)) ∧ H p = some (.lst xs) ∧ xs.length = ds.length := by
  obtain ⟨p, e1, s2⟩ := s.out h
  obtain ⟨p', I, o, e2, sI, hH, ⟨xs, eo, hx⟩, ow⟩ := s2.topM
  injection e2 with e2
  subst e2 eo
  exact ⟨p, xs, e1, hH, hx.length⟩
/-- xs.append(e), e draws -/
theorem ht_appX {ds0 : List D} (k : Γ[i]? = some (.m (.l ds0))) (h : EvXd B te Γ fun Γ' d => ∃ ds, Γ'[i]? = some (.m (.l ds)) ∧ ds.length < 100000 ∧ N (Γ'.set i (.m (.l (ds ++ [d]))))) :
    HT B (tDrop (tBM K "list" rAppend (tVar i) (tCons te tNil))) Γ N Rr := fun σ ts H Dn s n r => by
  obtain ⟨p, xs, e1, hH, _⟩ := s.outs k
  refine ⟨_, e1, .inl ⟨rfl, _, SqL.of hH⟩, h σ ts H s _ fun Γ' d w H1 ⟨ds, k', hz, q⟩ s2 => ?_⟩
  obtain ⟨p2, e3, s3⟩ := s2.out k'
  have e4 : p = p2 := by
    rw [e1] at e3
    injection e3 with e3; injection e3 with e3; injection e3
  subst e4
  obtain ⟨acc2, hacc2, hl2, s4⟩ := (s3.perm (.swap _ _ _)).app
  exact ⟨p, acc2, w, rfl, rfl, hacc2, sz_lt (by rw [hl2]; exact hz), n _ _ _ q (s4.back e1)⟩
/-- an item of an own list (on top) is read -/
theorem Stt.item {σ : L2.St} {ts : List Cell} {H : Hp} {ds : List D} {p : Addr} {k : Nat} {d : D} (s : Stt B σ Γ ((some (.ref p), .m (.l ds)) :: ts) H) (hk : ds[k]? = some d) :
    ∃ xs v, H p = some (.lst xs) ∧ xs.length = ds.length ∧ xs[k]? = some v ∧ Stt B σ Γ ((some v, .d d) :: (some (.ref p), .m (.l ds)) :: ts) H := by
  obtain ⟨hl, I, g, e⟩ := s
  obtain ⟨v', hv, p', o, e1, hI, ow, hH, xs, eo, hx⟩ := e.ok _ List.mem_cons_self (fun z => nomatch z)
  have hv : V.ref p = v' := Option.some.inj hv
  subst hv eo
  injection e1 with e1
  subst e1
  obtain ⟨v, hv, kd⟩ := hx.get hk
  exact ⟨xs, v, hH, hx.length, hv, hl, I, g, e.consD kd⟩
/-- xs[e], xs our own -/
theorem ev_ixM {z : Int} (k : Γ[i]? = some (.m (.l ds))) (h : EvE B te Γ (.d (.int z))) (h0 : 0 ≤ z) (hz : ds[z.toNat]? = some d) : EvE B (tOp (rIxL K) (tVar i) te) Γ (.d d) := fun σ ts H s Q q => by
  obtain ⟨p, xs, e1, hH, _⟩ := s.outs k
  refine ⟨_, e1, h σ ts H s _ fun w H1 s2 => ?_⟩
  have kz := s2.top
  cases kz
  obtain ⟨p2, e3, s3⟩ := s2.pop.out k
  have e4 : p = p2 := by
    rw [e1] at e3
    injection e3 with e3; injection e3 with e3; injection e3
  subst e4
  obtain ⟨xs, v, hH1, hl, hv, s4⟩ := s3.item hz
  have hlt : z.toNat < ds.length := (List.getElem?_eq_some_iff.mp hz).1
  refine ⟨p, xs, z, v, rfl, rfl, SqL.of hH1, ?_, q v H1 ?_⟩
  · unfold atI ixN
    rw [if_pos h0, if_pos (by omega)]
    exact hv
  · have s5 := (s4.perm (.swap _ _ _)).back e1
    rwa [set_self k] at s5
/-- xs[e] = v, xs our own -/
theorem ht_lset {z : Int} (k : Γ[i]? = some (.m (.l ds))) (hv : EvE B tv Γ (.d d)) (h : EvE B te Γ (.d (.int z))) (h0 : 0 ≤ z) (hz : z < ds.length) (q : N (Γ.set i (.m (.l (ds.set z.toNat d))))) : HT B (tAsg tv (gSub (tVar i) te rSetL)) Γ N Rr := fun σ ts H Dn s n r => hv σ ts H s _ fun w H1 s1 => by
  obtain ⟨p, xs, e1, hH, _⟩ := s1.outs k
  refine ⟨_, e1, h σ _ H1 s1 _ fun w2 H2 s2 => ?_⟩
  have kz := s2.top
  cases kz
  obtain ⟨p2, e3, s3⟩ := s2.pop.out k
  have e4 : p = p2 := by
    rw [e1] at e3
    injection e3 with e3; injection e3 with e3; injection e3
  subst e4
  obtain ⟨p', I, o, e2, sI, hH, ⟨xs, eo, hx⟩, ow⟩ := s3.topM
  injection e2 with e2
  subst e2 eo
  refine ⟨p, xs, z, z.toNat, rfl, rfl, hH, ?_, ?_⟩
  · unfold ixN; rw [if_pos h0, if_pos (by rw [hx.length]; exact hz)]
  · have s4 := s3.wr (u' := .l (ds.set z.toNat d)) (o' := .lst (xs.set z.toNat w)) (fun _ z => z) fun I2 sI2 mo ok => by
      obtain ⟨w', hw, kk⟩ := ok _ List.mem_cons_self (fun z => nomatch z)
      have hw := Option.some.inj hw
      subst hw
      obtain ⟨ks2, e5, m2⟩ := mo _ hH
      injection e5 with e5
      subst e5
      exact ⟨_, rfl, m2.set kk _⟩
    exact n _ _ _ q ((s4.sub (.cons_cons _ (List.sublist_cons_self _ _))).back e1)
/-- xs.pop(e), e draws -/
theorem xd_pop {ds0 : List D} (k : Γ[i]? = some (.m (.l ds0))) (h : EvXd B te Γ fun Γ' d => ∃ ds z y, d = .int z ∧ Γ'[i]? = some (.m (.l ds)) ∧ ds.length ≤ 100000 ∧ 0 ≤ z ∧ ds[z.toNat]? = some y ∧ R (Γ'.set i (.m (.l (ds.eraseIdx z.toNat)))) y) :
    EvXd B (tBM K "list" rPopAt (tVar i) (tCons te tNil)) Γ R := fun σ ts H s Q q => by
  obtain ⟨p, xs, e1, hH, _⟩ := s.outs k
  refine ⟨_, e1, .inl ⟨rfl, _, SqL.of hH⟩, h σ ts H s _ fun Γ' d w H1 ⟨ds, z, y, ed, k', hz, h0, hy, r⟩ s2 => ?_⟩
  subst ed
  have kz := s2.top
  cases kz
  obtain ⟨p2, e3, s3⟩ := s2.pop.out k'
  have e4 : p = p2 := by
    rw [e1] at e3
    injection e3 with e3; injection e3 with e3; injection e3
  subst e4
  obtain ⟨xs, v, hH1, hl, hv, s4⟩ := s3.item hy
  have hlt : z.toNat < ds.length := (List.getElem?_eq_some_iff.mp hy).1
  refine ⟨p, xs, z, z.toNat, v, rfl, rfl, hH1, by omega, by omega, ?_, hv, ?_⟩
  · unfold seqIndex?
    have h1 : ¬ z < 0 := by omega
    have h2 : z < (xs.length : Int) := by omega
    simp [h1, h0, h2]
  · have s5 := (s4.perm (.swap _ _ _)).wr (u' := .l (ds.eraseIdx z.toNat)) (o' := .lst (xs.eraseIdx z.toNat)) (fun _ z => z) fun I2 sI2 mo ok => by
      obtain ⟨ks2, e5, m2⟩ := mo _ hH1
      injection e5 with e5
      subst e5
      exact ⟨_, rfl, m2.eraseIdx _⟩
    exact q _ y v _ r (s5.back e1)
/-- d[e] = v, d our own, e draws -/
theorem ht_dputX {kvs0 : List (P2 × D)} (h : Γ[i]? = some (.m (.t kvs0))) (hv : EvE B tv Γ (.d y)) (hk : EvXd B ty Γ fun Γ' d => ∃ kvs k, d = dP k ∧ Γ'[i]? = some (.m (.t kvs)) ∧ kvs.length < 100000 ∧ N (Γ'.set i (.m (.t (putD kvs k y))))) : HT B (sDPut (tVar i) ty tv) Γ N Rr := fun σ ts H Dn s n r => hv σ ts H s _ fun v H1 s1 => by
  obtain ⟨p, e1, s2⟩ := s1.out h
  refine ⟨_, e1, hk σ _ H1 s1 _ fun Γ' d w H2 ⟨kvs, k, ed, h', hz, q⟩ s3 => ?_⟩
  subst ed
  obtain ⟨b, rfl, hb⟩ := s3.pairTop
  obtain ⟨p2, e3, s4⟩ := s3.pop.out h'
  have e4 : p = p2 := by
    rw [e1] at e3
    injection e3 with e3; injection e3 with e3; injection e3
  subst e4
  obtain ⟨p', I, o, e2, sI, hH, ⟨ks, eo, hks⟩, ow⟩ := s4.topM
  injection e2 with e2
  subst e2 eo
  have hlen : ks.length = kvs.length := Paired.length hks
  refine ⟨p, _, rfl, DPut.t hH hb (sz_lt (by omega)), n _ _ _ q ?_⟩
  have s5 := s4.wr (u' := .t (putD kvs k y)) (o' := .dT (putK ks (K2 k) v)) (fun _ z => z) fun I2 sI2 mo ok => by
    obtain ⟨w, hw, kk⟩ := ok _ List.mem_cons_self (fun z => nomatch z)
    have hw := Option.some.inj hw
    subst hw
    obtain ⟨ks2, e5, m2⟩ := mo _ hH
    injection e5 with e5
    subst e5
    exact ⟨_, rfl, m2.put kk⟩
  exact (s5.sub (.cons_cons _ (List.sublist_cons_self _ _))).back e1
/-! walks that draw first -/
theorem jok_list {a : Addr} : JOk B (Itl K a) [(some (.ref a), .d (.list ds))] ds := by
  intro i σ Γ ts H s
  obtain ⟨hl, I, g, k, e⟩ := Stt.one s
  cases k with
  | lst h1 t =>
    refine ⟨fun x hx => ?_, fun hn => ⟨_, SqL.of (g.s _ _ h1), by rw [t.length]; exact hn⟩⟩
    obtain ⟨y, hy, ky⟩ := t.get hx
    refine ⟨⟨_, y, SqL.of (g.s _ _ h1), hy⟩, fun v H' ⟨eH, ey⟩ => ?_⟩
    subst eH
    have z := ey _ (SqL.of (g.s _ _ h1))
    rw [hy] at z
    cases z
    exact ⟨hl, I, g, (e.consD (.lst h1 t)).consD ky⟩
theorem xi_list {P : List En → List D → Prop} (h : EvXd B te Γ fun Γ' d => ∃ ds, d = .list ds ∧ P Γ' ds) : EvXI B (iList K te) Γ P := fun σ ts H s Rk q => h σ ts H s _ fun Γ' d v H1 ⟨ds, ed, r⟩ s1 => by
  subst ed
  have k := s1.top
  cases k with
  | lst h0 t0 => exact ⟨_, rfl, ⟨_, SqL.of h0⟩, q Γ' ds _ [_] H1 r jok_list s1⟩
theorem xi_rng1 {P : List En → List D → Prop} (h : EvXd B te Γ fun Γ' d => ∃ z, d = .int z ∧ -1000000 ≤ z ∧ z ≤ 1000000 ∧ P Γ' (rgD 0 z.toNat)) : EvXI B (iRng1 (tCons te tNil)) Γ P := fun σ ts H s Rk q => h σ ts H s _ fun Γ' d v H1 ⟨z, ed, h1, h2, r⟩ s1 => by
  subst ed
  have k := s1.top
  cases k
  exact ⟨z, rfl, by omega, by omega, q Γ' _ _ [] H1 r jok_range s1.pop⟩
/-- enumerate -/
theorem ei_enum (h : EvD B tA Γ [.list ds]) : EvI B (iEnum K tA) Γ ((List.range ds.length).map fun (i : Nat) => PyData.tuple [.int i, ds[i]?.getD .none]) := fun σ ts H s R q => h σ ts H s _ fun vs H1 hl s1 => by
  obtain ⟨h0', I, g, k, e⟩ := Stt.args (ds := [.list ds]) hl s1
  obtain ⟨v, rfl, k1⟩ := k.one
  cases k1 with
  | lst h1 t1 =>
    refine ⟨_, _, rfl, SqL.of (g.s _ _ h1), q _ [(some _, .d (.list ds))] H1 ?_ ⟨h0', I, g, e.consD (.lst h1 t1)⟩⟩
    intro i σ Γ ts H s
    obtain ⟨hl, I, g, k, e⟩ := Stt.one s
    cases k with
    | lst h1 t =>
      refine ⟨fun x hx => ?_, fun hn => ⟨_, SqL.of (g.s _ _ h1), by rw [t.length]; simpa using hn⟩⟩
      rw [List.getElem?_map] at hx
      obtain ⟨j, hj, rfl⟩ := Option.map_eq_some_iff.mp hx
      have hlt : i < ds.length := by
        have := (List.getElem?_eq_some_iff.mp hj).1
        simpa using this
      rw [List.getElem?_range hlt] at hj
      cases hj
      rw [List.getElem?_eq_getElem hlt]
      obtain ⟨y, hy, ky⟩ := t.get (List.getElem?_eq_getElem hlt)
      refine ⟨⟨_, y, SqL.of (g.s _ _ h1), hy⟩, fun v H' ⟨T, x, ev, hT, eH, q1⟩ => ?_⟩
      have z1 := q1 _ (SqL.of (g.s _ _ h1))
      rw [hy] at z1
      cases z1
      subst ev eH
      exact Stt.fin (ts := _ :: ts) hl g (e.consD (.lst h1 t)) (Gr.new g.s hT) (.tup upd_same (.cons (.int _) (.cons (ky.mono (same_new _ (none_of_same g.s hT))) .nil)))
/-- for, the walk draws first -/
theorem ht_forX {wi : TI} {g : TG} {tb : TS} {P : List En → List D → Prop} (hi : EvXI B wi Γ P)
    (hp : ∀ Γ' ds, P Γ' ds → ∃ W : Nat → List En → Prop, W 0 Γ' ∧ (∀ i x Γ, ds[i]? = some x → W i Γ → ∃ Γ1 js, EvG B g Γ x Γ1 js ∧ HT B tb Γ1 (W (i + 1)) Rr) ∧ ∀ Γ, W ds.length Γ → N Γ) :
    HT B (tFor wi g tb) Γ N Rr := fun σ ts H Dn s n r => hi σ ts H s _ fun Γ' ds J src H1 hP jok s1 => by
  obtain ⟨W, h0, hs, hd⟩ := hp Γ' ds hP
  refine ⟨fun i m σ H => m = ds.length - i ∧ i ≤ ds.length ∧ ∃ Γ, W i Γ ∧ Stt B σ Γ (src ++ ts) H, ⟨ds.length, by simp, Nat.zero_le _, Γ', h0, s1⟩, ?_⟩
  rintro i m σ2 H2 ⟨rfl, hi, Γ2, w, s2⟩
  obtain ⟨go, stop⟩ := jok i σ2 Γ2 _ H2 s2
  by_cases hlt : i < ds.length
  · obtain ⟨hgo, yld⟩ := go ds[i] (List.getElem?_eq_getElem hlt)
    refine .inr ⟨hgo, fun σ' H' => ∃ Γ, W (i + 1) Γ ∧ Stt B σ' Γ (src ++ ts) H', fun σ' H' ⟨Γ', w', s'⟩ => ⟨ds.length - (i + 1), by omega, rfl, hlt, Γ', w', s'⟩, fun v H' y => ?_⟩
    obtain ⟨Γ1, js, eg, hb⟩ := hs i ds[i] Γ2 (List.getElem?_eq_getElem hlt) w
    refine eg.2 _ _ _ _ (yld v H' y) _ fun σ3 _ _ s3 => ?_
    exact hb σ3 _ H' _ s3 (fun Γ' σ' H'' w' s' => ⟨Γ', w', s'⟩) fun Γ' e σ' v H'' rr s' => r Γ' e σ' v H'' rr (s'.sub (.cons_cons _ (List.sublist_append_right _ _)))
  · have e : i = ds.length := by omega
    subst e
    exact .inl ⟨stop (Nat.le_refl _), n Γ2 σ2 H2 (hd _ w) (s2.sub (List.sublist_append_right _ _))⟩
/-! the draws' list -/
/-- tin[j] -/
theorem xd_tin {n : Nat} {j : Int} (h : Γ[i]? = some (.m (.tin n))) (hj : j = 0 ∨ j = 1 ∨ j = 2) (r : ∀ z : Int, (j = 2 → 0 ≤ z ∧ z ≤ n) → R Γ (.int z)) : EvXd B (tOp (rIxL K) (tVar i) (tC (.int j))) Γ R := fun σ ts H s Q q => by
  obtain ⟨p, e1, s1⟩ := s.out h
  obtain ⟨p', I, o, e2, sI, hH, ⟨a, b, c, eo, c0, c1⟩, ow⟩ := s1.topM
  injection e2 with e2
  subst e2 eo
  refine ⟨_, e1, ?_⟩
  rcases hj with hj | hj | hj <;> subst hj
  · exact ⟨p, _, 0, .int a, rfl, rfl, SqL.of hH, rfl, q Γ _ _ H (r a fun z => absurd z (by decide)) (s.pushV fun _ => .int _)⟩
  · exact ⟨p, _, 1, .int b, rfl, rfl, SqL.of hH, rfl, q Γ _ _ H (r b fun z => absurd z (by decide)) (s.pushV fun _ => .int _)⟩
  · exact ⟨p, _, 2, .int c, rfl, rfl, SqL.of hH, rfl, q Γ _ _ H (r c fun z => ⟨c0, c1⟩) (s.pushV fun _ => .int _)⟩
/-- tin[j] = e, j 0 or 2 -/
theorem ht_tin {n n' : Nat} {j : Int} (h : Γ[i]? = some (.m (.tin n))) (hj : j = 0 ∨ j = 2) (hn : n ≤ n') (he : EvXd B te Γ fun Γ' d => Γ' = Γ ∧ ∃ z, d = .int z ∧ (j = 2 → 0 ≤ z ∧ z ≤ n')) (q : N (Γ.set i (.m (.tin n')))) :
    HT B (tAsg te (gSub (tVar i) (tC (.int j)) rSetL)) Γ N Rr := fun σ ts H Dn s nn r => he σ ts H s _ fun Γ' d w H1 ⟨e, z, ed, hz⟩ s1 => by
  subst e ed
  have kz := s1.top
  cases kz
  obtain ⟨p, e1, s2⟩ := s1.pop.out h
  obtain ⟨p', I, o, e2, sI, hH, ⟨a, b, c, eo, c0, c1⟩, ow⟩ := s2.topM
  injection e2 with e2
  subst e2 eo
  refine ⟨_, e1, p, _, j, j.toNat, rfl, rfl, hH, ?_, ?_⟩
  · rcases hj with hj | hj <;> subst hj <;> rfl
  · have s3 := s2.wr (u' := .tin n') (o' := .lst (([.int a, .int b, .int c] : List V).set j.toNat (.int z))) (fun _ z => z) fun I2 sI2 mo ok => by
      rcases hj with hj | hj <;> subst hj
      · exact ⟨z, b, c, rfl, c0, by omega⟩
      · exact ⟨a, b, z, rfl, (hz rfl).1, (hz rfl).2⟩
    exact nn _ _ _ q (s3.back e1)
end
end G

set_option Elab.async false
set_option linter.all false
set_option maxRecDepth 100000
set_option maxHeartbeats 4000000
namespace G
open PySem L2
abbrev s__law_take : Stmt := top 41
theorem sc__law_take : FnScope ["_law_tin", "_law_below_so", "_law_once_so", "_law_wide_so", "_law_twice_so", "_law_drawn"] ["_law_tin", "_law_below_so"] (defScope s__law_take) := ⟨rfl, rfl, rfl, by decide +kernel, rfl, by decide +kernel, by decide +kernel⟩
abbrev s__law_of : Stmt := top 43
theorem sc__law_of : FnScope ["_law_tin", "_law_goods_so"] ["_law_tin", "_law_goods_so"] (defScope s__law_of) := ⟨rfl, rfl, rfl, by decide +kernel, rfl, by decide +kernel, by decide +kernel⟩
abbrev s__law_pick : Stmt := top 44
theorem sc__law_pick : FnScope ["_law_tin", "_law_goods_so", "_law_count_so", "_law_lap", "_law_pool_so", "_law_found"] ["_law_tin", "_law_goods_so", "_law_count_so"] (defScope s__law_pick) := ⟨rfl, rfl, rfl, by decide +kernel, rfl, by decide +kernel, by decide +kernel⟩
theorem erase_perm {α : Type} : ∀ {l : List α} {i : Nat} (h : i < l.length), (l[i] :: l.eraseIdx i).Perm l
  | a :: l, 0, _ => .refl _
  | a :: l, i + 1, h => by
    have h' : i < l.length := by simpa using h
    show (l[i] :: a :: l.eraseIdx i).Perm (a :: l)
    exact (List.Perm.swap _ _ _).trans ((erase_perm h').cons a)
abbrev ZP (Γ : List En) (P : Int → Prop) : List En → D → Prop := fun Γ' d => Γ' = Γ ∧ ∃ z : Int, d = .int z ∧ P z
abbrev TZ : Int → Prop := fun _ => True
section
variable {B : Bs} {Γ : List En} {ta tb te : TE} {A A' C : Int → Prop} {K : PySem.W.Frag} {i : Nat}
theorem z_op {r : R2} (ha : EvXd B ta Γ (ZP Γ A)) (hb : EvXd B tb Γ (ZP Γ A')) (hr : ∀ a b, A a → A' b → ∃ c, RO r (.int a) (.int b) (.int c) ∧ C c) : EvXd B (tOp r ta tb) Γ (ZP Γ C) :=
  xd_op ha fun Γ1 a ⟨e1, z1, e2, h1⟩ => by
    subst e1 e2
    refine xd_mono hb fun Γ2 b ⟨e3, z2, e4, h2⟩ => ?_
    subst e3 e4
    obtain ⟨c, h3, h4⟩ := hr z1 z2 h1 h2
    exact ⟨_, h3, rfl, c, rfl, h4⟩
theorem z_II {g : Int → Int → Int} (ha : EvXd B ta Γ (ZP Γ A)) (hb : EvXd B tb Γ (ZP Γ A')) (hr : ∀ a b, A a → A' b → C (g a b)) : EvXd B (tOp (rI0 fun i j => .int (g i j)) ta tb) Γ (ZP Γ C) := z_op ha hb fun a b h1 h2 => ⟨_, ro_II, hr a b h1 h2⟩
theorem z_IC {Cn : Int → Int → Prop} {g : Int → Int → Int} (ha : EvXd B ta Γ (ZP Γ A)) (hb : EvXd B tb Γ (ZP Γ A')) (hr : ∀ a b, A a → A' b → Cn a b ∧ C (g a b)) : EvXd B (tOp (rI Cn fun i j => .int (g i j)) ta tb) Γ (ZP Γ C) := z_op ha hb fun a b h1 h2 => ⟨_, ro_IC (hr a b h1 h2).1, (hr a b h1 h2).2⟩
theorem z_c {n : Int} : EvXd B (tC (.int n)) Γ (ZP Γ (· = n)) := xd_of ev_int ⟨rfl, n, rfl, rfl⟩
theorem z_v {n : Int} (h : Γ[i]? = some (.d (.int n))) : EvXd B (tVar i) Γ (ZP Γ (· = n)) := xd_of (ev_var h) ⟨rfl, n, rfl, rfl⟩
theorem z_tin {n : Nat} {j : Int} (h : Γ[i]? = some (.m (.tin n))) (hj : j = 0 ∨ j = 1 ∨ j = 2) : EvXd B (tOp (rIxL K) (tVar i) (tC (.int j))) Γ (ZP Γ fun z => j = 2 → 0 ≤ z ∧ z ≤ n) := xd_tin h hj fun z hz => ⟨rfl, z, rfl, hz⟩
theorem z_int (h : EvXd B te Γ (ZP Γ A)) : EvXd B (tCB (fun xs H Q => (∃ i, xs = [.int i] ∧ Q (.int i) H) ∨ ∃ k, xs = [.bl k] ∧ Q (.int (if k then 1 else 0)) H) (tCons te tNil)) Γ (ZP Γ A) :=
  xd_cb (xa_cons h fun Γ1 d ⟨e1, z1, e2, h1⟩ => xa_nil (by subst e1 e2; exact ⟨_, rc_int, rfl, z1, rfl, h1⟩))
theorem mul_r {a b : Int} (h : -1000000000000 ≤ b ∧ b ≤ 1000000000000000) : CMul a b := .inr ⟨by omega, by omega⟩
theorem mul_l {a b : Int} (h : -1000000000000 ≤ a ∧ a ≤ 1000000000000000) : CMul a b := .inl ⟨by omega, by omega⟩
theorem mod_bd {a b : Int} (h : 0 < b) : 0 ≤ a % b ∧ a % b < b := ⟨Int.emod_nonneg _ (by omega), Int.emod_lt_of_pos _ h⟩
end
section
variable {P : Program} {w : World} {K : PySem.W.Frag} {mg : Str → Option Value} {base : Heap} (B0 : Bi mg)
include B0
abbrev sp__law_take : Sp := spT 1 (fun ds => ∃ b : Int, ds = [.int b] ∧ 0 < b ∧ b < 1000) fun ds d => ∃ b z : Int, ds = [.int b] ∧ d = .int z ∧ 0 ≤ z ∧ z < b
theorem ok__law_take (d : Dfx K mg "_law_take" s__law_take ["_law_tin", "_law_below_so"]) : Cal P w K mg base CX0 1 "_law_take" s__law_take ["_law_tin", "_law_below_so"] sp__law_take := d.cal fun f fd F => by
  refine fnT F sc__law_take (fun ds h => by obtain ⟨_, rfl, _⟩ := h; rfl) (by decide) fun cdv A outer s H E hr => ?_
  have hu64 := hr.units
  have hu65 := hu65_of hr
  have hu := hu_of hr
  have hu0 := hr.units0
  have nd := sc__law_take.nd
  refine ⟨_, (pss_cons (ps_if (pt_cmpR op_gt (pe_ix (k_ixL K rfl) (pv 0) pe_int (fun _ _ => rfl)) pe_int (nomark _)) (pss_cons (ps_set (i := 5) nd rfl (Or.inl rfl) (pe_op op_mod (pe_callTy call_int1 rfl B0.int (by decide +kernel) (pa_cons (pe_ix (k_ixL K rfl) (pv 0) pe_int (fun _ _ => rfl)) pa_nil)) (pv 1)))
    (pss_cons (ps_asg (pe_op op_fdiv (pe_ix (k_ixL K rfl) (pv 0) pe_int (fun _ _ => rfl)) (pv 1)) (pg_sub (pv 0) pe_int set_list))
    (pss_one (ps_ret (pv 5))))) pss_nil)
    (pss_cons (ps_asg (pe_op op_add (pe_ix (k_ixL K rfl) (pv 0) pe_int (fun _ _ => rfl)) pe_int) (pg_sub (pv 0) pe_int set_list))
    (pss_cons (ps_set (i := 2) nd rfl (Or.inl rfl) (pe_op op_mod (pe_callTy call_int1 rfl B0.int (by decide +kernel) (pa_cons (pe_op op_mul (pe_op op_add (pe_ix (k_ixL K rfl) (pv 0) pe_int (fun _ _ => rfl)) (pe_op op_mul pe_int (pe_ix (k_ixL K rfl) (pv 0) pe_int (fun _ _ => rfl)))) (pe_op op_add pe_int (pe_ix (k_ixL K rfl) (pv 0) pe_int (fun _ _ => rfl)))) pa_nil)) pe_int))
    (pss_cons (ps_set (i := 3) nd rfl (Or.inl rfl) (pe_op op_add (pe_op op_mod (pe_callTy call_int1 rfl B0.int (by decide +kernel) (pa_cons (pv 2) pa_nil)) pe_int) pe_int))
    (pss_cons (ps_set (i := 4) nd rfl (Or.inl rfl) (pe_op op_mod (pe_callTy call_int1 rfl B0.int (by decide +kernel) (pa_cons (pe_op op_mul (pe_op op_add (pe_op op_add (pv 2) (pe_ix (k_ixL K rfl) (pv 0) pe_int (fun _ _ => rfl))) (pe_op op_fdiv (pe_ix (k_ixL K rfl) (pv 0) pe_int (fun _ _ => rfl)) pe_int)) (pv 3)) pa_nil)) pe_int))
    (pss_one (ps_ret (pe_op op_mod (pe_callTy call_int1 rfl B0.int (by decide +kernel) (pa_cons (pe_op op_fdiv (pe_op op_mod (pe_callTy call_int1 rfl B0.int (by decide +kernel) (pa_cons (pe_op op_add (pe_op op_mul (pv 4) pe_int) (pv 2)) pa_nil)) pe_int) pe_int) pa_nil)) (pv 1))))))))), ?_⟩
  rintro B ds n _ ⟨b, rfl, hb0, hb1⟩ hn
  have gt : ∀ {x : Int}, EvXB B (tTest (tOp (rI0 fun i j => V.bl (decide (j < i))) (tOp (rIxL K) (tVar 0) (tC (.int 0))) (tC (.int 0)))) [.m (.tin n), .d (.int b), .un, .un, .un, .un] (fun Γ' _ => Γ' = [.m (.tin n), .d (.int b), .un, .un, .un, .un]) := fun {x} =>
    xd_boolT (xd_op (z_tin rfl (.inl rfl)) fun Γ1 a ⟨e1, z1, e2, h1⟩ => by
      subst e1 e2
      exact xd_of ev_int ⟨_, ro_IB, _, rfl, rfl⟩)
  refine ht_seq (ht_ifX (gt (x := 0)) (fun Γ' e => ?_) fun Γ' e => ?_)
  · subst e
    refine ht_seq (ht_setD (xd_mono (z_IC (C := fun z => 0 ≤ z ∧ z < b) (z_int (z_tin rfl (.inl rfl))) (z_v rfl) fun x y _ e => by subst e; exact ⟨hb0, mod_bd hb0⟩) fun Γ1 d ⟨e1, z, e2, h1⟩ => ?_))
    subst e1 e2
    refine ht_seq (ht_tin (n' := n) rfl (.inl rfl) (Nat.le_refl _) (xd_mono (z_IC (C := TZ) (z_tin rfl (.inl rfl)) (z_v rfl) fun x y _ e => by subst e; exact ⟨⟨hb0, by omega⟩, trivial⟩) fun Γ1 d ⟨e1, z, e2, h1⟩ => ⟨e1, z, e2, fun z => absurd z (by decide)⟩) ?_)
    exact ht_ret (ev_var rfl) ⟨_, n, rfl, ⟨b, z, rfl, rfl, h1⟩, rfl, by omega⟩
  · subst e
    refine ht_next ?_
    refine ht_seq (ht_tin (n' := n + 1) rfl (.inr rfl) (by omega) (xd_mono (z_II (C := fun z => 0 ≤ z ∧ z ≤ (n : Int) + 1) (z_tin rfl (.inr (.inr rfl))) z_c fun x y h e => by subst e; have := h rfl; omega) fun Γ1 d ⟨e1, z, e2, h1⟩ => ⟨e1, z, e2, fun _ => by omega⟩) ?_)
    have hn' : ((n + 1 : Nat) : Int) ≤ 1100000000000 := by omega
    refine ht_seq (ht_setD (xd_mono (z_IC (C := fun z => 0 ≤ z ∧ z < 2147483647) (z_int (z_IC (C := TZ) (z_II (C := TZ) (z_tin rfl (.inr (.inl rfl))) (z_IC (C := TZ) z_c (z_tin rfl (.inr (.inr rfl))) fun x y e _ => by subst e; exact ⟨mul_l (by decide), trivial⟩) fun _ _ _ _ => trivial) (z_II (C := fun z => 0 ≤ z ∧ z ≤ 1100000039373) z_c (z_tin rfl (.inr (.inr rfl))) fun x y e h => by subst e; have := h rfl; omega) fun x y _ h => ⟨mul_r (by omega), trivial⟩)) z_c fun x y _ e => by subst e; exact ⟨by decide, mod_bd (by decide)⟩) fun Γ1 d ⟨e1, once, e2, h1⟩ => ?_))
    subst e1 e2
    refine ht_seq (ht_setD (xd_mono (z_II (C := fun z => 0 ≤ z ∧ z < 50000) (z_IC (C := fun z => 0 ≤ z ∧ z < 40009) (z_int (z_v rfl)) z_c fun x y _ e => by subst e; exact ⟨by decide, mod_bd (by decide)⟩) z_c fun x y h e => by subst e; omega) fun Γ1 d ⟨e1, wide, e2, h2⟩ => ?_))
    subst e1 e2
    refine ht_seq (ht_setD (xd_mono (z_IC (C := fun z => 0 ≤ z ∧ z < 2147483629) (z_int (z_IC (C := TZ) (z_II (C := TZ) (z_II (C := TZ) (z_v rfl) (z_tin rfl (.inr (.inr rfl))) fun _ _ _ _ => trivial) (z_IC (C := TZ) (z_tin rfl (.inr (.inl rfl))) z_c fun x y _ e => by subst e; exact ⟨⟨by decide, by decide⟩, trivial⟩) fun _ _ _ _ => trivial) (z_v rfl) fun x y _ e => by subst e; exact ⟨mul_r (by omega), trivial⟩)) z_c fun x y _ e => by subst e; exact ⟨by decide, mod_bd (by decide)⟩) fun Γ1 d ⟨e1, twice, e2, h3⟩ => ?_))
    subst e1 e2
    refine ht_retD (xd_mono (z_IC (C := fun z => 0 ≤ z ∧ z < b) (z_int (z_IC (C := TZ) (z_IC (C := TZ) (z_int (z_II (C := TZ) (z_IC (C := TZ) (z_v rfl) z_c fun x y _ e => by subst e; exact ⟨mul_r (by decide), trivial⟩) (z_v rfl) fun _ _ _ _ => trivial)) z_c fun x y _ e => by subst e; exact ⟨by decide, trivial⟩) z_c fun x y _ e => by subst e; exact ⟨⟨by decide, by decide⟩, trivial⟩)) (z_v rfl) fun x y _ e => by subst e; exact ⟨hb0, mod_bd hb0⟩) fun Γ1 d ⟨e1, z, e2, h4⟩ => ?_)
    subst e1 e2
    exact ⟨_, n + 1, rfl, ⟨b, z, rfl, rfl, h4⟩, rfl, Nat.le_refl _⟩
/-- a draw below b, as a reading -/
theorem x_take {B : Bs} {Γ : List En} {tA : TA} {n i : Nat} {E : XK} {b : Int} {R : List En → D → Prop} (ht : Γ[i]? = some (.m (.tin n))) (h : EvD B tA Γ [.int b]) (hb0 : 0 < b) (hb1 : b < 1000) (hc : n + 1 ≤ 2 ^ 40) (r : ∀ z : Int, 0 ≤ z → z < b → R (Γ.set i (.m (.tin (n + 1)))) (.int z)) :
    EvXd B (tCall sp__law_take [] E (tCons (tVar i) tA)) Γ R := xd_callT ht h ⟨b, rfl, hb0, hb1⟩ hc fun d ⟨b', z, e1, e2, h1, h2⟩ => by
  injection e1 with e1 _
  injection e1 with e1
  subst e1 e2
  exact r z h1 h2
abbrev sp__law_of : Sp := spT 1 (fun ds => ∃ es : List D, ds = [.list es] ∧ es ≠ [] ∧ es.length < 1000) fun ds d => ∃ es : List D, ds = [.list es] ∧ d ∈ es
theorem ok__law_of (c__law_take : Cal P w K mg base CX0 1 "_law_take" s__law_take ["_law_tin", "_law_below_so"] sp__law_take) (d : Dfx K mg "_law_of" s__law_of ["_law_tin", "_law_goods_so"]) : Cal P w K mg base CX0 2 "_law_of" s__law_of ["_law_tin", "_law_goods_so"] sp__law_of := d.cal fun f fd F => by
  refine fnT F sc__law_of (fun ds h => by obtain ⟨_, rfl, _⟩ := h; rfl) (by decide) fun cdv A outer s H E hr => ?_
  have hu64 := hr.units
  have hu65 := hu65_of hr
  have hu := hu_of hr
  have hu0 := hr.units0
  obtain ⟨f__law_take, fd__law_take, F__law_take, m__law_take, b__law_take, ok__law_take⟩ := c__law_take
  have nd := sc__law_of.nd
  refine ⟨_, (pss_one (ps_ret (pe_ix (k_ixL K rfl) (pv 1) (pe_call ok__law_take (hr.mono (by decide)) rfl m__law_take F__law_take.kp b__law_take .nil pass0 (pa_cons (pv 0) (pa_cons (pe_callB (k_len K rfl) rfl B0.len (by decide +kernel) (pa_cons (pv 1) pa_nil)) pa_nil))) (fun _ _ => rfl)))), ?_⟩
  rintro B ds n _ ⟨es, rfl, h0, h1⟩ hn
  have hp : 0 < es.length := List.length_pos_iff.mpr h0
  refine ht_retD (xd_op (xd_of (ev_var rfl) (R := fun Γ1 d => Γ1 = _ ∧ d = .list es) ⟨rfl, rfl⟩) fun Γ1 a ⟨e1, e2⟩ => ?_)
  subst e1 e2
  refine x_take B0 rfl (ed_cons (ev_cbD (ed_cons (ev_var rfl) ed_nil) rc_lenL) ed_nil) (by omega) (by omega) hn fun z h2 h3 => ?_
  have hz : z.toNat < es.length := by omega
  exact ⟨es[z.toNat], ro_ixL h2 (List.getElem?_eq_getElem hz), _, n + 1, rfl, ⟨es, rfl, List.getElem_mem hz⟩, rfl, Nat.le_refl _⟩
abbrev sp__law_pick : Sp := spT 64 (fun ds => ∃ es : List D, ds = [.list es, .int es.length] ∧ es.length < 64) fun ds d => ∃ es fs : List D, ds = [.list es, .int es.length] ∧ d = .list fs ∧ fs.Perm es
theorem ok__law_pick (c__law_take : Cal P w K mg base CX0 1 "_law_take" s__law_take ["_law_tin", "_law_below_so"] sp__law_take) (d : Dfx K mg "_law_pick" s__law_pick ["_law_tin", "_law_goods_so", "_law_count_so"]) : Cal P w K mg base CX0 2 "_law_pick" s__law_pick ["_law_tin", "_law_goods_so", "_law_count_so"] sp__law_pick := d.cal fun f fd F => by
  refine fnT F sc__law_pick (fun ds h => by obtain ⟨_, rfl, _⟩ := h; rfl) (by decide) fun cdv A outer s H E hr => ?_
  have hu64 := hr.units
  have hu65 := hu65_of hr
  have hu := hu_of hr
  have hu0 := hr.units0
  obtain ⟨f__law_take, fd__law_take, F__law_take, m__law_take, b__law_take, ok__law_take⟩ := c__law_take
  have nd := sc__law_pick.nd
  refine ⟨_, (pss_cons (ps_par (i := 4) (j := 5) rfl nd rfl rfl (by decide) rfl rfl (pa_cons (pe_callTy (k_list K rfl) rfl B0.list (by decide +kernel) (pa_cons (pv 1) pa_nil)) (pa_cons (pe_lst pa_nil) pa_nil)) rfl)
    (pss_cons (ps_for PassesOwn.never rfl (pi_range1 rfl B0.range (pa_cons (pe_callB (call_min2 rfl) rfl B0.min (by decide +kernel) (pa_cons (pe_callTy call_int1 rfl B0.int (by decide +kernel) (pa_cons (pv 2) pa_nil)) (pa_cons (pe_callB (k_len K rfl) rfl B0.len (by decide +kernel) (pa_cons (pv 4) pa_nil)) pa_nil))) pa_nil)) (pg_name (i := 3) nd rfl (by first | exact Or.inl rfl | exact Or.inr rfl)) (pss_one (ps_expr (pe_bm PySem.F.plainAttrs_list PySem.F.slot_list_append PySem.F.type_list_append mt_append (pv 5) (pa_cons (pe_bm PySem.F.plainAttrs_list PySem.F.slot_list_pop PySem.F.type_list_pop mt_popAt (pv 4) (pa_cons (pe_call ok__law_take (hr.mono (by decide)) rfl m__law_take F__law_take.kp b__law_take .nil pass0 (pa_cons (pv 0) (pa_cons (pe_callB (k_len K rfl) rfl B0.len (by decide +kernel) (pa_cons (pv 4) pa_nil)) pa_nil))) pa_nil)) pa_nil)))))
    (pss_one (ps_ret (pv 5))))), ?_⟩
  rintro B ds n _ ⟨es, rfl, h1⟩ hn
  refine ht_seq (ht_par (ea_cons (ev_listM (ev_var rfl)) (ea_cons (ev_lstM (ds := []) ea_nil) ea_nil)) ?_)
  refine ht_seq (ht_for (fun i Γ => ∃ pool found e3, Γ = [.m (.tin (n + i)), .d (.list es), .d (.int es.length), e3, .m (.l pool), .m (.l found)] ∧ (pool ++ found).Perm es ∧ found.length = i) (ei_rng1 (ed_cons (ev_cbD (ed_cons (ev_cbD (ed_cons (ev_var rfl) ed_nil) rc_int) (ed_cons (ev_lenM rfl) ed_nil)) rc_min) ed_nil) (by split <;> omega) (by split <;> omega)) ⟨es, [], _, rfl, by simp, rfl⟩ (fun i x Γ hx ⟨pool, found, e3, e, hp, hl⟩ => ?_) fun Γ ⟨pool, found, e3, e, hp, hl⟩ => ?_)
  · subst e
    obtain ⟨hi, rfl⟩ := rgD_get hx
    have hi : i < es.length := by
      have e0 : (if (es.length : Int) < (es.length : Int) then (es.length : Int) else es.length) = es.length := if_neg (by omega)
      rw [e0] at hi; omega
    have hpl : pool.length + found.length = es.length := by rw [← hp.length_eq, List.length_append]
    refine ⟨_, _, eg_name, ht_appX rfl (xd_pop rfl (x_take B0 rfl (ed_cons (ev_lenM rfl) ed_nil) (by omega) (by omega) (by omega) fun z h2 h3 => ?_))⟩
    have hz : z.toNat < pool.length := by omega
    refine ⟨pool, z, pool[z.toNat], rfl, rfl, by omega, h2, List.getElem?_eq_getElem hz, found, rfl, by omega, pool.eraseIdx z.toNat, found ++ [pool[z.toNat]], _, rfl, ?_, by simp [hl]⟩
    have q : pool.Perm (pool[z.toNat] :: pool.eraseIdx z.toNat) := (erase_perm hz).symm
    refine List.Perm.trans ?_ hp
    refine List.Perm.trans ?_ ((q.append_right found).symm)
    rw [← List.append_assoc]
    exact List.perm_append_comm.trans (.refl _)
  · subst e
    have hi : (rgD 0 (if (es.length : Int) < (es.length : Int) then (es.length : Int) else es.length).toNat).length = es.length := by
      rw [if_neg (by omega)]; simp [rgD]
    rw [hi] at hl
    have hpl : pool.length + found.length = es.length := by rw [← hp.length_eq, List.length_append]
    have e0 : pool = [] := List.length_eq_zero_iff.mp (by omega)
    subst e0
    refine ht_frz (i := 5) rfl (ht_ret (ev_var rfl) ⟨_, _, rfl, ⟨es, found, rfl, rfl, hp⟩, rfl, ?_⟩)
    rw [hi]; omega
end
end G

set_option Elab.async false
set_option linter.all false
set_option maxRecDepth 100000
/-! Mir4: the swap of ties, the closure by laps, the tree that is picked. -/
namespace G
open PySem L2
theorem sortP_congr {l m : List P2} (p : l.Perm m) : sortP l = sortP m := sortP_eq ((sortP_perm m).trans p.symm) (sortP_sorted m)
theorem sortP_slt {l : List P2} (h : l.Nodup) : SLt (sortP l) := slt_of (sortP_sorted l) ((sortP_perm l).nodup_iff.mpr h)
def noP (us : List P2) (out : P2) : List P2 := us.filter fun t => !decide (t = out)
section
variable {m n : Int} {us ts tree : List P2} {t p q out put place : P2} {f : Fnd}
theorem mem_noP : t ∈ noP us out ↔ t ∈ us ∧ t ≠ out := by
  unfold noP
  rw [List.mem_filter, Bool.not_eq_true', decide_eq_false_iff_not]
theorem noP_nodup (h : us.Nodup) : (noP us out).Nodup := List.filter_sublist.nodup h
theorem noP_length (h : us.Nodup) (ho : out ∈ us) : (noP us out).length + 1 = us.length := by
  have nd : (out :: noP us out).Nodup := List.nodup_cons.mpr ⟨fun z => (mem_noP.mp z).2 rfl, noP_nodup h⟩
  have pm : (out :: noP us out).Perm us := (List.perm_ext_iff_of_nodup nd h).mpr fun x => by
    rw [List.mem_cons, mem_noP]
    constructor
    · rintro (z | z)
      · subst z; exact ho
      · exact z.1
    · intro z
      by_cases e : x = out
      · exact .inl e
      · exact .inr ⟨z, e⟩
  exact pm.length_eq
theorem noP_of_not (ho : out ∉ us) : noP us out = us := List.filter_eq_self.mpr fun a ha => by
  rw [Bool.not_eq_true', decide_eq_false_iff_not]
  intro z; subst z; exact ho ha
/-! ways -/
theorem path_con (en : ∀ p t o, (p, some (t, o)) ∈ f → t ∈ tree ∧ Lk t o p) (no : ∀ p, (p, none) ∈ f → p = place) {w : List P2} (h : PathTo f p w) (hw : ∀ t ∈ w, t ∈ us) : Con us place p := by
  induction h with
  | nil h => rw [no _ h]; exact .refl _
  | @snoc p t o w h _ ih => exact .snoc (ih fun t ht => hw t (List.mem_append_left _ ht)) (hw t (List.mem_append_right _ (List.mem_singleton.mpr rfl))) (en _ _ _ h).2
theorem path_mem (en : ∀ p t o, (p, some (t, o)) ∈ f → t ∈ tree ∧ Lk t o p) {w : List P2} (h : PathTo f p w) : ∀ u ∈ w, u ∈ tree := by
  induction h with
  | nil h => intro u hu; cases hu
  | snoc h _ ih => intro u hu; rcases List.mem_append.mp hu with z | z
                   · exact ih u z
                   · rw [List.mem_singleton.mp z]; exact (en _ _ _ h).1
theorem path_split (en : ∀ p t o, (p, some (t, o)) ∈ f → t ∈ tree ∧ Lk t o p) (no : ∀ p, (p, none) ∈ f → p = place) {w : List P2} (h : PathTo f p w) (nd : w.Nodup) (ho : out ∈ w) : ∃ e1 e2, Lk out e1 e2 ∧ Con (noP tree out) place e1 ∧ Con (noP tree out) e2 p := by
  induction h with
  | nil h => cases ho
  | @snoc p t o w h h' ih =>
    obtain ⟨n1, _, n3⟩ := List.nodup_append.mp nd
    obtain ⟨ht, lk⟩ := en _ _ _ h
    by_cases e : out = t
    · subst e
      refine ⟨o, p, lk, ?_, .refl _⟩
      have hw : ∀ u ∈ w, u ∈ noP tree out := fun u hu => mem_noP.mpr ⟨?_, n3 u hu out (List.mem_singleton.mpr rfl)⟩
      · exact path_con en no h' hw
      · exact path_mem en h' u hu
    · have ho' : out ∈ w := (List.mem_append.mp ho).resolve_right fun z => e (List.mem_singleton.mp z)
      obtain ⟨e1, e2, a, b, c⟩ := ih n1 ho'
      exact ⟨e1, e2, a, b, .snoc c (mem_noP.mpr ⟨ht, fun z => e z.symm⟩) lk⟩
/-- the swap: out may go for put iff it lies on put's way -/
theorem swap_iff (hm : 1 ≤ m) (hn : 1 ≤ n) (hmn : m + n < 64) (hr : ∀ t ∈ us, InR m n t) (hp : InR m n put) (nd : us.Nodup) (hl : (us.length : Int) = m + n - 1) (hc : AllCon m n us) :
    out ∈ wayOf us (0, put.1) (1, put.2) ↔ out ∈ us ∧ AllCon m n (noP us out ++ [put]) := by
  have p0 := (tie_pl hp).1
  have p1 := (tie_pl hp).2
  have hw : Wd us m n (0, put.1) := ⟨hmn, by omega, by omega, hr, by omega, p0⟩
  obtain ⟨h1, h2, h3, h4⟩ := hw.path (hc _ _ p0 p1)
  have en := hw.bi.en
  have no := hw.bi.no
  constructor
  · intro ho
    refine ⟨h3 out ho, ?_⟩
    obtain ⟨e1, e2, lk, c1, c2⟩ := path_split en no h1 h2 ho
    have up : ∀ t ∈ noP us out, t ∈ noP us out ++ [put] := fun t ht => List.mem_append_left _ ht
    have cput : Con (noP us out ++ [put]) (0, put.1) (1, put.2) := .one (List.mem_append_right _ (List.mem_singleton.mpr rfl)) (.inl ⟨rfl, rfl⟩)
    have c12 : Con (noP us out ++ [put]) e1 e2 := ((c1.mono up).symm.trans cput).trans (c2.mono up).symm
    have cout : Con (noP us out ++ [put]) (0, out.1) (1, out.2) := by
      rcases lk with ⟨a, b⟩ | ⟨a, b⟩
      · rw [← a, ← b]; exact c12
      · rw [← a, ← b]; exact c12.symm
    intro p q hp' hq'
    refine (hc p q hp' hq').sub fun t ht => ?_
    by_cases e : t = out
    · rw [e]; exact cout
    · exact .one (up t (mem_noP.mpr ⟨ht, e⟩)) (.inl ⟨rfl, rfl⟩)
  · rintro ⟨ho, hV⟩
    by_cases hw' : out ∈ wayOf us (0, put.1) (1, put.2)
    · exact hw'
    · exfalso
      have cput : Con (noP us out) (0, put.1) (1, put.2) := path_con en no h1 fun t ht => mem_noP.mpr ⟨h3 t ht, fun z => hw' (by rw [← z]; exact ht)⟩
      have hU : AllCon m n (noP us out) := fun p q hp' hq' => (hV p q hp' hq').sub fun t ht => by
        rcases List.mem_append.mp ht with z | z
        · exact .one z (.inl ⟨rfl, rfl⟩)
        · rw [List.mem_singleton.mp z]; exact cput
      have a := con_len hm (by omega) (fun t ht => hr t (mem_noP.mp ht).1) hU
      have b := noP_length nd ho
      omega
/-! ### the closure by laps -/
def walkA (f : List P2) (t : P2) : List P2 := if (0, t.1) ∈ f ∧ (1, t.2) ∉ f then f ++ [(1, t.2)] else f
def walkB (f : List P2) (t : P2) : List P2 := if (1, t.2) ∈ f ∧ (0, t.1) ∉ f then f ++ [(0, t.1)] else f
def walkT (f : List P2) (t : P2) : List P2 := walkB (walkA f t) t
def lapW (us : List P2) (f : List P2) : List P2 := us.foldl walkT f
def lapsW (us : List P2) : Nat → List P2 → List P2
  | 0, f => f
  | k + 1, f => lapW us (lapsW us k f)
structure WI (us : List P2) (m n : Int) (spot : P2) (f : List P2) : Prop where
  nd : f.Nodup
  con : ∀ p ∈ f, Con us spot p ∧ PlOk m n p
  st : spot ∈ f
theorem WI.snoc {spot : P2} {f : List P2} (h : WI us m n spot f) {p q : P2} (hp : p ∈ f) (hq : q ∉ f) (ht : t ∈ us) (lk : Lk t p q) (hr : InR m n t) : WI us m n spot (f ++ [q]) :=
  ⟨List.nodup_append.mpr ⟨h.nd, by simp, fun a ha b hb e => hq (by rw [List.mem_singleton.mp hb] at e; rw [← e]; exact ha)⟩, fun x hx => by
    rcases List.mem_append.mp hx with z | z
    · exact h.con x z
    · rw [List.mem_singleton.mp z]
      refine ⟨.snoc (h.con p hp).1 ht lk, ?_⟩
      rcases lk with ⟨a, b⟩ | ⟨a, b⟩
      · rw [b]; exact (tie_pl hr).2
      · rw [b]; exact (tie_pl hr).1, List.mem_append_left _ h.st⟩
theorem WI.walkT {spot : P2} {f : List P2} (h : WI us m n spot f) (ht : t ∈ us) (hr : InR m n t) : WI us m n spot (walkT f t) := by
  have h1 : WI us m n spot (walkA f t) := by
    unfold walkA
    split
    · rename_i k; exact h.snoc k.1 k.2 ht (.inl ⟨rfl, rfl⟩) hr
    · exact h
  unfold G.walkT walkB
  split
  · rename_i k; exact h1.snoc k.1 k.2 ht (.inr ⟨rfl, rfl⟩) hr
  · exact h1
theorem walkT_sub {f : List P2} {x : P2} (h : x ∈ f) : x ∈ walkT f t := by
  have h1 : x ∈ walkA f t := by
    unfold walkA
    split
    · exact List.mem_append_left _ h
    · exact h
  unfold walkT walkB
  split
  · exact List.mem_append_left _ h1
  · exact h1
theorem walkT_both {f : List P2} (h : (0, t.1) ∈ f ∨ (1, t.2) ∈ f) : (0, t.1) ∈ walkT f t ∧ (1, t.2) ∈ walkT f t := by
  unfold walkT
  by_cases a : ((0 : Int), t.1) ∈ f
  · have k : (0, t.1) ∈ walkA f t ∧ (1, t.2) ∈ walkA f t := by
      unfold walkA
      by_cases b : ((1 : Int), t.2) ∈ f
      · rw [if_neg (fun z => z.2 b)]; exact ⟨a, b⟩
      · rw [if_pos ⟨a, b⟩]; exact ⟨List.mem_append_left _ a, List.mem_append_right _ (List.mem_singleton.mpr rfl)⟩
    unfold walkB
    rw [if_neg (fun z => z.2 k.1)]
    exact k
  · have b := h.resolve_left a
    have e : walkA f t = f := by unfold walkA; rw [if_neg (fun z => a z.1)]
    rw [e]
    unfold walkB
    rw [if_pos ⟨b, a⟩]
    exact ⟨List.mem_append_right _ (List.mem_singleton.mpr rfl), List.mem_append_left _ b⟩
theorem walkT_closed {f : List P2} (h : (0, t.1) ∈ f ↔ (1, t.2) ∈ f) : walkT f t = f := by
  have e : walkA f t = f := by unfold walkA; rw [if_neg (fun z => z.2 (h.mp z.1))]
  unfold walkT
  rw [e]
  unfold walkB
  rw [if_neg (fun z => z.2 (h.mpr z.1))]
theorem lapW_sub : ∀ (us : List P2) (f : List P2) {x : P2}, x ∈ f → x ∈ lapW us f
  | [], _, _, h => h
  | u :: us, f, x, h => lapW_sub us (walkT f u) (walkT_sub h)
theorem lapW_both : ∀ (us : List P2) (f : List P2), ∀ t ∈ us, ((0, t.1) ∈ f ∨ (1, t.2) ∈ f) → (0, t.1) ∈ lapW us f ∧ (1, t.2) ∈ lapW us f
  | [], _, _, h, _ => by cases h
  | u :: us, f, t, h, k => by
    rcases List.mem_cons.mp h with z | z
    · subst z
      obtain ⟨a, b⟩ := walkT_both k
      exact ⟨lapW_sub us _ a, lapW_sub us _ b⟩
    · exact lapW_both us (walkT f u) t z (k.imp walkT_sub walkT_sub)
theorem lapW_closed : ∀ (us : List P2) (f : List P2), (∀ t ∈ us, ((0, t.1) ∈ f ↔ (1, t.2) ∈ f)) → lapW us f = f
  | [], _, _ => rfl
  | u :: us, f, h => by
    show lapW us (walkT f u) = f
    rw [walkT_closed (h u List.mem_cons_self)]
    exact lapW_closed us f fun t ht => h t (List.mem_cons_of_mem _ ht)
theorem WI.lapF {spot : P2} (hr : ∀ t ∈ us, InR m n t) : ∀ (vs : List P2) (f : List P2), (∀ t ∈ vs, t ∈ us) → WI us m n spot f → WI us m n spot (vs.foldl G.walkT f)
  | [], _, _, h => h
  | u :: vs, f, hv, h => WI.lapF hr vs _ (fun t ht => hv t (List.mem_cons_of_mem _ ht)) (h.walkT (hv u List.mem_cons_self) (hr u (hv u List.mem_cons_self)))
theorem WI.lapsW {spot : P2} {f : List P2} (hr : ∀ t ∈ us, InR m n t) (h : WI us m n spot f) : ∀ k, WI us m n spot (lapsW us k f)
  | 0 => h
  | k + 1 => WI.lapF hr us _ (fun _ z => z) (WI.lapsW hr h k)
def abs2 (f : List P2) (t : P2) : Bool := decide ((0, t.1) ∈ f) && decide ((1, t.2) ∈ f)
theorem countP_lt {α : Type} {p q : α → Bool} : ∀ {l : List α}, (∀ x ∈ l, p x = true → q x = true) → (∃ x ∈ l, p x = false ∧ q x = true) → l.countP p < l.countP q
  | [], _, ⟨x, hx, _⟩ => by cases hx
  | a :: l, h, ⟨x, hx, h1, h2⟩ => by
    have le : l.countP p ≤ l.countP q := List.countP_mono_left fun x hx => h x (List.mem_cons_of_mem _ hx)
    rw [List.countP_cons, List.countP_cons]
    rcases List.mem_cons.mp hx with z | z
    · subst z
      rw [h1, h2]
      simp
      omega
    · have lt := countP_lt (fun x hx => h x (List.mem_cons_of_mem _ hx)) ⟨x, z, h1, h2⟩
      by_cases pa : p a = true
      · rw [pa, h a List.mem_cons_self pa]; simp; exact lt
      · rw [Bool.not_eq_true _ |>.mp pa]
        simp
        split <;> omega
theorem lapsW_prog {f : List P2} : ∀ k, (∀ t ∈ us, ((0, t.1) ∈ lapsW us k f ↔ (1, t.2) ∈ lapsW us k f)) ∨ k ≤ us.countP (abs2 (lapsW us k f))
  | 0 => .inr (Nat.zero_le _)
  | k + 1 => by
    by_cases hc : ∀ t ∈ us, ((0, t.1) ∈ lapsW us k f ↔ (1, t.2) ∈ lapsW us k f)
    · left
      show ∀ t ∈ us, ((0, t.1) ∈ lapW us (lapsW us k f) ↔ (1, t.2) ∈ lapW us (lapsW us k f))
      rw [lapW_closed us _ hc]
      exact hc
    · right
      have ih := (lapsW_prog k).resolve_left hc
      obtain ⟨t, ht, hn⟩ : ∃ t ∈ us, ¬ ((0, t.1) ∈ lapsW us k f ↔ (1, t.2) ∈ lapsW us k f) := by
        refine Classical.byContradiction fun z => hc fun t ht => Classical.byContradiction fun y => z ⟨t, ht, y⟩
      have lt : us.countP (abs2 (lapsW us k f)) < us.countP (abs2 (lapW us (lapsW us k f))) := by
        refine countP_lt (fun x hx h => ?_) ⟨t, ht, ?_, ?_⟩
        · unfold abs2 at h ⊢
          rw [Bool.and_eq_true, decide_eq_true_eq, decide_eq_true_eq] at h ⊢
          exact ⟨lapW_sub us _ h.1, lapW_sub us _ h.2⟩
        · unfold abs2
          by_cases a : ((0 : Int), t.1) ∈ lapsW us k f
          · by_cases b : ((1 : Int), t.2) ∈ lapsW us k f
            · exact absurd ⟨fun _ => b, fun _ => a⟩ hn
            · rw [decide_eq_false b]; simp
          · rw [decide_eq_false a]; rfl
        · have e : (0, t.1) ∈ lapsW us k f ∨ (1, t.2) ∈ lapsW us k f := by
            by_cases a : ((0 : Int), t.1) ∈ lapsW us k f
            · exact .inl a
            · by_cases b : ((1 : Int), t.2) ∈ lapsW us k f
              · exact .inr b
              · exact absurd ⟨fun z => absurd z a, fun z => absurd z b⟩ hn
          obtain ⟨a, b⟩ := lapW_both us _ t ht e
          unfold abs2
          rw [decide_eq_true a, decide_eq_true b]; rfl
      show k + 1 ≤ us.countP (abs2 (lapW us (lapsW us k f)))
      omega
theorem lapsW_closed {f : List P2} : ∀ t ∈ us, ((0, t.1) ∈ lapsW us us.length f ↔ (1, t.2) ∈ lapsW us us.length f) := by
  rcases lapsW_prog (us := us) (f := f) us.length with h | h
  · exact h
  · have e : us.countP (abs2 (lapsW us us.length f)) = us.length := Nat.le_antisymm List.countP_le_length h
    intro t ht
    have := List.countP_eq_length.mp e t ht
    unfold abs2 at this
    rw [Bool.and_eq_true, decide_eq_true_eq, decide_eq_true_eq] at this
    exact ⟨fun _ => this.2, fun _ => this.1⟩
/-- the closure is what the walk reaches -/
theorem walked_eq {spot : P2} (h : Wd us m n spot) : sortP (lapsW us us.length [spot]) = sortP (keys (stepsM us spot)) := by
  have w0 : WI us m n spot [spot] := ⟨by simp, fun p hp => by rw [List.mem_singleton.mp hp]; exact ⟨.refl _, h.p⟩, by simp⟩
  have w := w0.lapsW h.r us.length
  refine sortP_congr ((List.perm_ext_iff_of_nodup w.nd h.bi.nd).mpr fun x => ?_)
  rw [h.mem]
  refine ⟨fun hx => (w.con x hx).1, fun c => ?_⟩
  induction c with
  | refl => exact w.st
  | snoc _ ht lk ih =>
    have e := lapsW_closed (f := [spot]) _ ht
    rcases lk with ⟨a, b⟩ | ⟨a, b⟩
    · subst a b; exact e.mp ih
    · subst a b; exact e.mpr ih
/-! ### the ends -/
theorem spots_keys (h : Wd us m n (0, 0)) (hc : AllCon m n us) : sortP (keys (stepsM us (0, 0))) = spots m n := by
  refine sortP_eq ((List.perm_ext_iff_of_nodup spots_sorted.nodup h.bi.nd).mpr fun x => ?_) spots_sorted.le
  rw [mem_spots, h.mem]
  exact ⟨fun hx => hc _ _ h.p hx, fun c => h.bi.sp x (h.mem.mpr c)⟩
/-! ### the tree that is picked -/
def krT (m : Int) (s : List Int × List P2) (t : P2) : List Int × List P2 := (markedM s.1 m t, if s.1.getD t.1.toNat 0 = s.1.getD (m + t.2).toNat 0 then s.2 else s.2 ++ [t])
structure Kr (m n : Int) (ps : List P2) (s : List Int × List P2) : Prop where
  a : s.1 = grownM (rgI (m + n).toNat) m ps
  b : s.1 = grownM (rgI (m + n).toNat) m s.2
  c : lenSet s.1 + s.2.length = (m + n).toNat
  d : s.2.Sublist ps
theorem grownM_snoc (ms : List Int) (m : Int) (us : List P2) (t : P2) : grownM ms m (us ++ [t]) = markedM (grownM ms m us) m t := by unfold grownM; rw [List.foldl_append]; rfl
theorem Kr.step {ps : List P2} {s : List Int × List P2} (hm : 0 ≤ m) (hn : 0 ≤ n) (h : Kr m n ps s) (r : InR m n t) : Kr m n (ps ++ [t]) (krT m s t) := by
  have hl : s.1.length = (m + n).toNat := by rw [h.a, grownM_length, rgI_length]
  have ml := marked_len hl hm hn r
  rw [idx0, idx1] at ml
  have e := markedM_eq s.1 m t
  rw [idx0, idx1] at e
  unfold krT
  by_cases c : s.1.getD t.1.toNat 0 = s.1.getD (m + t.2).toNat 0
  · rw [if_pos c] at ml e ⊢
    exact ⟨by dsimp only; rw [grownM_snoc, ← h.a], by dsimp only; rw [e]; exact h.b, by dsimp only; rw [e]; exact h.c, h.d.trans (List.sublist_append_left _ _)⟩
  · rw [if_neg c] at ml ⊢
    refine ⟨by dsimp only; rw [grownM_snoc, ← h.a], by dsimp only; rw [grownM_snoc, ← h.b], ?_, h.d.append (List.Sublist.refl _)⟩
    have := h.c
    dsimp only
    rw [List.length_append]
    simp
    omega
theorem Kr.start : Kr m n [] (rgI (m + n).toNat, []) := ⟨rfl, rfl, by dsimp only; rw [lenSet_nodup (rgI_nodup _), rgI_length]; simp, .slnil⟩
theorem Kr.fin {ps : List P2} {s : List Int × List P2} (w : OkW m n ts) (h : Kr m n ps s) (hp : ps.Perm ts) : OkT m n ts (sortP s.2) := by
  have hm : 0 ≤ m := by have := w.m1; omega
  have hn : 0 ≤ n := by have := w.n1; omega
  have rp : ∀ t ∈ ps, InR m n t := fun t ht => w.r t (hp.mem_iff.mp ht)
  have rs : ∀ t ∈ s.2, InR m n t := fun t ht => rp t (h.d.subset ht)
  have c1 := (hangs_iff w.m1 hn w.r).mp w.h
  have c2 : AllCon m n ps := fun p q a b => (c1 p q a b).mono fun t ht => hp.mem_iff.mpr ht
  have hg : hangsB m n s.2 = hangsB m n ps := by
    unfold hangsB
    rw [← h.a, ← h.b]
  have h2 := (hangs_iff w.m1 hn rp).mpr c2
  have c3 := (hangs_iff w.m1 hn rs).mp (hg.trans h2)
  have h3 : lenSet s.1 = 1 := by
    have z := h2
    unfold hangsB at z
    rw [← h.a] at z
    have z := of_decide_eq_true z
    omega
  have nd : s.2.Nodup := h.d.nodup (hp.nodup_iff.mpr w.s.nodup)
  have hc := h.c
  refine ⟨w.mn, hm, hn, fun t ht => rs t (mem_sortP.mp ht), fun t ht => hp.mem_iff.mp (h.d.subset (mem_sortP.mp ht)), sortP_slt nd, ?_, ?_⟩
  · rw [sortP_length]; omega
  · exact (hangs_iff w.m1 hn fun t ht => rs t (mem_sortP.mp ht)).mpr fun p q a b => (c3 p q a b).mono fun t ht => mem_sortP.mpr ht
end
end G

set_option Elab.async false
set_option linter.all false
set_option maxRecDepth 100000
set_option maxHeartbeats 4000000
namespace G
open PySem L2
abbrev s__law_lists : Stmt := top 45
theorem sc__law_lists : FnScope ["_law_matter", "_law_bit"] ["_law_matter"] (defScope s__law_lists) := ⟨rfl, rfl, rfl, by decide +kernel, rfl, by decide +kernel, by decide +kernel⟩
abbrev s__law_same : Stmt := top 46
theorem sc__law_same : FnScope ["_law_got", "_law_due", "_law_mine", "_law_its"] ["_law_got", "_law_due"] (defScope s__law_same) := ⟨rfl, rfl, rfl, by decide +kernel, rfl, by decide +kernel, by decide +kernel⟩
abbrev s__law_marks : Stmt := top 47
theorem sc__law_marks : FnScope ["_law_many_so", "_law_pairs_so", "_law_marks_so", "_law_one", "_law_two", "_law_near", "_law_far", "_law_own"] ["_law_many_so", "_law_pairs_so"] (defScope s__law_marks) := ⟨rfl, rfl, rfl, by decide +kernel, rfl, by decide +kernel, by decide +kernel⟩
abbrev s__law_hangs : Stmt := top 48
theorem sc__law_hangs : FnScope ["_law_net_here", "_law_bonds_so", "_law_marks_so", "_law_own"] ["_law_net_here", "_law_bonds_so"] (defScope s__law_hangs) := ⟨rfl, rfl, rfl, by decide +kernel, rfl, by decide +kernel, by decide +kernel⟩
abbrev s__law_way : Stmt := top 49
theorem sc__law_way : FnScope ["_law_net_here", "_law_boughs", "_law_spot", "_law_goal_so", "_law_ways_so", "_law_seen_so", "_law_later_so", "_law_own", "_law_way_so", "_law_bond", "_law_end_so"] ["_law_net_here", "_law_boughs", "_law_spot", "_law_goal_so"] (defScope s__law_way) := ⟨rfl, rfl, rfl, by decide +kernel, rfl, by decide +kernel, by decide +kernel⟩
abbrev s__law_walked : Stmt := top 55
theorem sc__law_walked : FnScope ["_law_boughs", "_law_spot", "_law_found", "_law_lap", "_law_one", "_law_two"] ["_law_boughs", "_law_spot"] (defScope s__law_walked) := ⟨rfl, rfl, rfl, by decide +kernel, rfl, by decide +kernel, by decide +kernel⟩
/-- data that _law_same compares -/
def okS : Nat → D → Prop
  | _ + 1, .int _ => True
  | _ + 1, .bool _ => True
  | _ + 1, .str s => PyData.strOk s = true
  | n + 1, .list ds => ds.length ≤ 1000 ∧ ∀ d ∈ ds, okS n d
  | n + 1, .tuple ds => ds.length ≤ 1000 ∧ ∀ d ∈ ds, okS n d
  | _, _ => False
theorem zip_self (ds : List D) : List.zipWith (fun x y => PyData.tuple [x, y]) ds ds = ds.map fun x => .tuple [x, x] := by
  induction ds with
  | nil => rfl
  | cons d ds ih => rw [List.zipWith_cons_cons, ih, List.map_cons]
theorem sh_str {n : Nat} {i : Str} (h : PyData.strOk i = true) : shN n (.str i) := ⟨by simp [PyData.canLay0, h], by simp [PyData.depth]⟩
theorem shaped_str {i : Str} (h : PyData.strOk i = true) : SeqAt.shaped (.str i) = true := (sh_str (n := 1) h).sh (by decide)
theorem eqv_str (i : Str) : PyData.eqv (.str i) (.str i) = true := by simp [PyData.eqv]
def lmk (ms : List Int) (p : P2) : List Int := ms.map fun o => if o = ms.getD p.2.toNat 0 then ms.getD p.1.toNat 0 else o
theorem lmk_length (ms : List Int) (p : P2) : (lmk ms p).length = ms.length := List.length_map _
theorem lmk_eq (ms : List Int) (m : Int) (t : P2) : lmk ms (t.1, m + t.2) = markedM ms m t := by
  unfold lmk markedM
  dsimp only
  split
  · rename_i h
    rw [h]
    have : (fun o : Int => if o = ms.getD (m + t.2).toNat 0 then ms.getD (m + t.2).toNat 0 else o) = id := by
      funext o
      split
      · rename_i k; exact k.symm
      · rfl
    rw [this, List.map_id]
  · rfl
def lmks (ms : List Int) (ps : List P2) : List Int := ps.foldl lmk ms
theorem lmks_length : ∀ (ps : List P2) (ms : List Int), (lmks ms ps).length = ms.length
  | [], _ => rfl
  | p :: ps, ms => by
    show (lmks (lmk ms p) ps).length = _
    rw [lmks_length ps, lmk_length]
theorem lmks_eq (m : Int) : ∀ (us : List P2) (ms : List Int), lmks ms (us.map fun t => (t.1, m + t.2)) = grownM ms m us
  | [], _ => rfl
  | t :: us, ms => by
    show lmks (lmk ms (t.1, m + t.2)) _ = grownM (markedM ms m t) m us
    rw [lmk_eq, lmks_eq m us]
theorem flat_rep (k : Nat) (a : D) : (List.replicate k [a]).flatten = List.replicate k a := by
  induction k with
  | zero => rfl
  | succ k ih => rw [List.replicate_succ, List.flatten_cons, ih, List.replicate_succ]; rfl
theorem same_iff {ns : List Int} (h : ns ≠ []) : decide (ns = List.replicate ns.length (ns.getD 0 0)) = decide ((lenSet ns : Int) = 1) := by
  refine decide_eq_decide.mpr ?_
  have e : ((lenSet ns : Int) = 1) ↔ lenSet ns = 1 := by omega
  rw [e, lenSet_one h, List.eq_replicate_iff]
  simp
def wd (x : P2 × List P2) : D := .tuple [dP x.1, dT x.2]
theorem shaped_ways (L : List (P2 × List P2)) : SeqAt.shaped (.list (L.map wd)) = true := (sh_list (n := 3) fun d hd => by
  obtain ⟨x, _, rfl⟩ := List.mem_map.mp hd
  exact sh_tuple (n := 2) fun d hd => by
    rcases List.mem_cons.mp hd with z | z
    · subst z; exact sh_pair _
    · rw [List.mem_singleton.mp z]; exact sh_pairs _).sh (by decide)
theorem eqv_ways (L : List (P2 × List P2)) : PyData.eqv (.list (L.map wd)) (.list []) = decide (L = []) := by
  cases L with
  | nil => simp [PyData.eqv, PyData.eqvAll]
  | cons x L => simp [PyData.eqv, PyData.eqvAll]
def seenD (f : Fnd) : List (P2 × D) := (keys f).map fun k => (k, .bool true)
theorem hasD_seen (f : Fnd) (p : P2) : hasD (seenD f) p = decide (p ∈ keys f) := by
  unfold hasD seenD
  induction keys f with
  | nil => simp
  | cons x f ih =>
    rw [List.map_cons, List.any_cons, ih]
    by_cases h : x = p
    · simp [h]
    · have h' : ¬ p = x := fun z => h z.symm
      simp only [h, decide_false, Bool.false_or, List.mem_cons, h', false_or]
theorem seenD_snoc (f : Fnd) (x : P2 × Option (P2 × P2)) : seenD (f ++ [x]) = seenD f ++ [(x.1, .bool true)] := by simp [seenD, keys]
section
variable {P : Program} {w : World} {K : PySem.W.Frag} {mg : Str → Option Value} {base : Heap} (B0 : Bi mg)
include B0
abbrev sp__law_lists : Sp := spR (fun d : D => [d]) (okD 4) lstD
theorem ok_listsN (d : Dfx K mg "_law_lists" s__law_lists ["_law_matter"]) : ∀ n, Cal P w K mg base CX0 n "_law_lists" s__law_lists ["_law_matter"] (spR (fun d : D => [d]) (okD n) lstD)
  | 0 => d.cal fun f fd F => by
    refine ⟨fun vs H Q E ⟨I, x, _, _, h, _⟩ => ?_, fun A outer s H args us vs Q E _ _ _ _ ⟨I, x, _, _, h, _⟩ => ?_⟩ <;> (cases x <;> exact h.elim)
  | n + 1 => d.cal fun f fd F => by
    have c__law_lists := ok_listsN d n
    refine fnR F sc__law_lists (fun _ => rfl) (by decide) fun cdv A outer s H E hr => ?_
    obtain ⟨f__law_lists, fd__law_lists, F__law_lists, m__law_lists, b__law_lists, ok__law_lists⟩ := c__law_lists
    have hu64 := hr.units
    have hu65 := hu65_of hr
    have hu := hu_of hr
    have hu0 := hr.units0
    have nd := sc__law_lists.nd
    refine ⟨_, (pss_one (ps_ret (pe_ifExp (pt_val (pe_callB (k_isiT K rfl) rfl B0.isinstance (by decide +kernel) (pa_cons (pv 0) (pa_cons (pe_tup (pa_cons (pe_bltn (v := .ty "list") rfl B0.list (by decide +kernel) rfl) (pa_cons (pe_bltn (v := .ty "tuple") rfl B0.tuple (by decide +kernel) rfl) pa_nil))) pa_nil)))) (pe_lc (own := [("_law_bit", 1)]) rfl nd (pi_or (k_iL K rfl (pv 0)) (k_iT K rfl (pv 0))) (blkOk_by (N := ["_law_matter", "_law_bit"]) (sc := defScope s__law_lists) (own := [("_law_bit", 1)]) (by decide +kernel)) (fun _ _ _ _ _ => (pg_name (i := 1) nd rfl (by first | exact Or.inl rfl | exact Or.inr rfl))) (fun _ _ _ _ _ => pts_nil) (fun _ _ _ _ _ => (pe_call ok__law_lists (hr.mono (Nat.le_refl _)) rfl m__law_lists F__law_lists.kp b__law_lists .nil pass0 (pa_cons (pv 1) pa_nil)))) (pv 0)))), ?_⟩
    intro B x hx
    cases x with
    | int i =>
      refine ht_ret (e := .d (lstD (.int i))) (ev_if (b := false) (eb_B ((ev_isi2 (d := .int i) (ev_var rfl) k_int_list k_int_tuple).is rfl)) (fun z => nomatch z) fun _ => (ev_var rfl).is rfl) rfl
    | list ds =>
      refine ht_ret (e := .d (lstD (.list ds))) (ev_if (b := true) (eb_B ((ev_isi2 (d := .list ds) (ev_var rfl) k_list_list k_list_tuple).is rfl)) (fun _ => ?_) fun z => nomatch z) rfl
      refine (ev_lcD lstD (ei_orL (ei_list (ev_var rfl))) (hv1 rfl) hj1 (by have := hx.1; omega) fun a ha => ⟨_, eg_name, ev_callR (ed_cons (ev_var rfl) ed_nil) a rfl (hx.2 a ha)⟩).is ?_
      rw [lstD, lstDs_map]
    | tuple ds =>
      refine ht_ret (e := .d (lstD (.tuple ds))) (ev_if (b := true) (eb_B ((ev_isi2 (d := .tuple ds) (ev_var rfl) k_tuple_list k_tuple_tuple).is rfl)) (fun _ => ?_) fun z => nomatch z) rfl
      refine (ev_lcD lstD (ei_orR (ei_tup (ev_var rfl))) (hv1 rfl) hj1 (by have := hx.1; omega) fun a ha => ⟨_, eg_name, ev_callR (ed_cons (ev_var rfl) ed_nil) a rfl (hx.2 a ha)⟩).is ?_
      rw [lstD, lstDs_map]
    | none => exact hx.elim
    | bool b => exact hx.elim
    | str s => exact hx.elim
    | dict k => exact hx.elim
theorem ok__law_lists (d : Dfx K mg "_law_lists" s__law_lists ["_law_matter"]) : Cal P w K mg base CX0 4 "_law_lists" s__law_lists ["_law_matter"] sp__law_lists := ok_listsN B0 d 4
abbrev sp__law_same : Sp := spR (fun d : D => [d, d]) (okS 6) fun _ => .bool true
theorem ok_sameN (d : Dfx K mg "_law_same" s__law_same ["_law_got", "_law_due"]) : ∀ n, Cal P w K mg base CX0 n "_law_same" s__law_same ["_law_got", "_law_due"] (spR (fun d : D => [d, d]) (okS n) fun _ => .bool true)
  | 0 => d.cal fun f fd F => by
    refine ⟨fun vs H Q E ⟨I, x, _, _, h, _⟩ => ?_, fun A outer s H args us vs Q E _ _ _ _ ⟨I, x, _, _, h, _⟩ => ?_⟩ <;> (cases x <;> exact h.elim)
  | n + 1 => d.cal fun f fd F => by
    have c__law_same := ok_sameN d n
    refine fnR F sc__law_same (fun _ => rfl) (by decide) fun cdv A outer s H E hr => ?_
    obtain ⟨f__law_same, fd__law_same, F__law_same, m__law_same, b__law_same, ok__law_same⟩ := c__law_same
    have hu64 := hr.units
    have hu65 := hu65_of hr
    have hu := hu_of hr
    have hu0 := hr.units0
    have nd := sc__law_same.nd
    refine ⟨_, (pss_cons (ps_if (pt_val (pe_callB (k_isiT K rfl) rfl B0.isinstance (by decide +kernel) (pa_cons (pv 1) (pa_cons (pe_tup (pa_cons (pe_bltn (v := .ty "list") rfl B0.list (by decide +kernel) rfl) (pa_cons (pe_bltn (v := .ty "tuple") rfl B0.tuple (by decide +kernel) rfl) pa_nil))) pa_nil)))) (pss_cons (ps_if (PW.pt (pw_or (pt_cmpR (k_neD K rfl hu64) (pe_callB (k_isi K rfl) rfl B0.isinstance (by decide +kernel) (pa_cons (pv 0) (pa_cons (pe_bltn (v := .ty "list") rfl B0.list (by decide +kernel) rfl) pa_nil))) (pe_callB (k_isi K rfl) rfl B0.isinstance (by decide +kernel) (pa_cons (pv 1) (pa_cons (pe_bltn (v := .ty "list") rfl B0.list (by decide +kernel) rfl) pa_nil))) (nomark _)) (pw_or1 (pt_cmpR (k_neD K rfl hu64) (pe_callB (k_isi K rfl) rfl B0.isinstance (by decide +kernel) (pa_cons (pv 0) (pa_cons (pe_bltn (v := .ty "tuple") rfl B0.tuple (by decide +kernel) rfl) pa_nil))) (pe_callB (k_isi K rfl) rfl B0.isinstance (by decide +kernel) (pa_cons (pv 1) (pa_cons (pe_bltn (v := .ty "tuple") rfl B0.tuple (by decide +kernel) rfl) pa_nil))) (nomark _))))) (pss_one (ps_ret pe_bl)) pss_nil)
    (pss_one (ps_ret (pe_and (pe_cmpR (k_eqD K rfl hu64) (pe_callB (k_len K rfl) rfl B0.len (by decide +kernel) (pa_cons (pv 0) pa_nil)) (pe_callB (k_len K rfl) rfl B0.len (by decide +kernel) (pa_cons (pv 1) pa_nil)) (nomark _)) (pe_one (pe_callB (k_all K rfl rfl) rfl B0.all (by decide +kernel) (pa_cons (pe_lc (own := [("_law_mine", 2), ("_law_its", 3)]) rfl nd (RZ.pi_zipA rfl B0.zip (pa_cons (pv 0) (pa_cons (pv 1) pa_nil))) (blkOk_by (N := ["_law_got", "_law_due", "_law_mine", "_law_its"]) (sc := defScope s__law_same) (own := [("_law_mine", 2), ("_law_its", 3)]) (by decide +kernel)) (fun _ _ _ _ _ => (k_tup (n := 2) K rfl rfl (pgs_cons (pg_name (i := 2) nd rfl (by first | exact Or.inl rfl | exact Or.inr rfl)) (pgs_cons (pg_name (i := 3) nd rfl (by first | exact Or.inl rfl | exact Or.inr rfl)) pgs_nil)))) (fun _ _ _ _ _ => pts_nil) (fun _ _ _ _ _ => (pe_call ok__law_same (hr.mono (Nat.le_refl _)) rfl m__law_same F__law_same.kp b__law_same .nil pass0 (pa_cons (pv 2) (pa_cons (pv 3) pa_nil))))) pa_nil))))))) pss_nil)
    (pss_cons (ps_if (PW.pt (pw_or (pt_cmpR op_isN (pv 1) pe_non (nomark _)) (pw_or1 (pt_val (pe_callB (k_isiT K rfl) rfl B0.isinstance (by decide +kernel) (pa_cons (pv 1) (pa_cons (pe_tup (pa_cons (pe_bltn (v := .ty "bool") rfl B0.bool (by decide +kernel) rfl) (pa_cons (pe_bltn (v := .ty "str") rfl B0.str (by decide +kernel) rfl) pa_nil))) pa_nil))))))) (pss_one (ps_ret (pe_and (pe_cmpR (k_eqD K rfl hu64) (pv 0) (pv 1) (nomark _)) (pe_and (pe_cmpR (k_eqD K rfl hu64) (pe_callB (k_isi K rfl) rfl B0.isinstance (by decide +kernel) (pa_cons (pv 0) (pa_cons (pe_bltn (v := .ty "bool") rfl B0.bool (by decide +kernel) rfl) pa_nil))) (pe_callB (k_isi K rfl) rfl B0.isinstance (by decide +kernel) (pa_cons (pv 1) (pa_cons (pe_bltn (v := .ty "bool") rfl B0.bool (by decide +kernel) rfl) pa_nil))) (nomark _)) (pe_one (pe_cmpR (k_eqD K rfl hu64) (pe_cmpR op_isN (pv 0) pe_non (nomark _)) (pe_cmpR op_isN (pv 1) pe_non (nomark _)) (nomark _))))))) pss_nil)
    (pss_one (ps_ret (pe_and (pe_callB (k_isi K rfl) rfl B0.isinstance (by decide +kernel) (pa_cons (pv 0) (pa_cons (pe_bltn (v := .ty "int") rfl B0.int (by decide +kernel) rfl) pa_nil))) (pe_and (pe_not (pe_callB (k_isi K rfl) rfl B0.isinstance (by decide +kernel) (pa_cons (pv 0) (pa_cons (pe_bltn (v := .ty "bool") rfl B0.bool (by decide +kernel) rfl) pa_nil)))) (pe_one (pe_cmpR (k_eqD K rfl hu64) (pv 0) (pv 1) (nomark _))))))))), ?_⟩
    intro B x hx
    cases x with
    | int i =>
      refine ht_seq (ht_if (b := false) (eb_B ((ev_isi2 (d := .int i) (ev_var rfl) k_int_list k_int_tuple).is rfl)) (fun z => nomatch z) fun _ => ht_next ?_)
      refine ht_seq (ht_if (b := false) (eb_is (eb_or (eb_test (ev_op (ev_var rfl) ev_non ro_isN)) fun _ => eb_B (ev_isi2 (d := .int i) (ev_var rfl) k_int_bool k_int_str)) rfl) (fun z => nomatch z) fun _ => ht_next ?_)
      exact ht_ret' (ev_andV (ev_isi (d := .int i) (ev_var rfl) k_int_int) fun _ => ev_andV (ev_notV (ev_isi (d := .int i) (ev_var rfl) k_int_bool)) fun _ => ev_op (ev_var rfl) (ev_var rfl) (ro_eqD (shaped_int i) (shaped_int i))) (by rw [eqv_int, decide_eq_true rfl]; rfl) rfl
    | bool i =>
      refine ht_seq (ht_if (b := false) (eb_B ((ev_isi2 (d := .bool i) (ev_var rfl) k_bool_list k_bool_tuple).is rfl)) (fun z => nomatch z) fun _ => ht_next ?_)
      refine ht_seq (ht_if (b := true) (eb_is (eb_or (eb_test (ev_op (ev_var rfl) ev_non ro_isN)) fun _ => eb_B (ev_isi2 (d := .bool i) (ev_var rfl) k_bool_bool k_bool_str)) rfl) (fun _ => ?_) fun z => nomatch z)
      refine ht_ret' (ev_andV (ev_op (ev_var rfl) (ev_var rfl) (ro_eqD (shaped_bool i) (shaped_bool i))) fun _ => ev_andV (ev_op (ev_isi (d := .bool i) (ev_var rfl) k_bool_bool) (ev_isi (d := .bool i) (ev_var rfl) k_bool_bool) (ro_eqD (shaped_bool _) (shaped_bool _))) fun _ => ev_op (ev_op (ev_var rfl) ev_non ro_isN) (ev_op (ev_var rfl) ev_non ro_isN) (ro_eqD (shaped_bool _) (shaped_bool _))) ?_ rfl
      rw [eqv_bool, eqv_bool, eqv_bool]; simp
    | str i =>
      refine ht_seq (ht_if (b := false) (eb_B ((ev_isi2 (d := .str i) (ev_var rfl) k_str_list k_str_tuple).is rfl)) (fun z => nomatch z) fun _ => ht_next ?_)
      refine ht_seq (ht_if (b := true) (eb_is (eb_or (eb_test (ev_op (ev_var rfl) ev_non ro_isN)) fun _ => eb_B (ev_isi2 (d := .str i) (ev_var rfl) k_str_bool k_str_str)) rfl) (fun _ => ?_) fun z => nomatch z)
      refine ht_ret' (ev_andV (ev_op (ev_var rfl) (ev_var rfl) (ro_eqD (shaped_str hx) (shaped_str hx))) fun _ => ev_andV (ev_op (ev_isi (d := .str i) (ev_var rfl) k_str_bool) (ev_isi (d := .str i) (ev_var rfl) k_str_bool) (ro_eqD (shaped_bool _) (shaped_bool _))) fun _ => ev_op (ev_op (ev_var rfl) ev_non ro_isN) (ev_op (ev_var rfl) ev_non ro_isN) (ro_eqD (shaped_bool _) (shaped_bool _))) ?_ rfl
      rw [eqv_str, eqv_bool, eqv_bool]; simp
    | list ds =>
      refine ht_seq (ht_if (b := true) (eb_B ((ev_isi2 (d := .list ds) (ev_var rfl) k_list_list k_list_tuple).is rfl)) (fun _ => ?_) fun z => nomatch z)
      refine ht_seq (ht_if (b := false) (eb_is (eb_or (eb_test (ev_op (ev_isi (d := .list ds) (ev_var rfl) k_list_list) (ev_isi (d := .list ds) (ev_var rfl) k_list_list) (ro_neD (shaped_bool _) (shaped_bool _)))) fun _ => eb_test (ev_op (ev_isi (d := .list ds) (ev_var rfl) k_list_tuple) (ev_isi (d := .list ds) (ev_var rfl) k_list_tuple) (ro_neD (shaped_bool _) (shaped_bool _)))) (by rw [eqv_bool, eqv_bool]; rfl)) (fun z => nomatch z) fun _ => ht_next ?_)
      refine ht_ret' (ev_andV (ev_op (ev_cbD (ed_cons (ev_var rfl) ed_nil) rc_lenL) (ev_cbD (ed_cons (ev_var rfl) ed_nil) rc_lenL) (ro_eqD (shaped_int _) (shaped_int _))) fun _ => ev_cbD (ed_cons (ev_lcM (xs := ds) (c := fun x => .tuple [x, x]) (fun _ => PyData.bool true) (by rw [← zip_self]; exact ei_zipL (ed_cons (ev_var rfl) (ed_cons (ev_var rfl) ed_nil)) rfl) (hv2 rfl rfl) hj2 (by have := hx.1; omega) fun a ha => ⟨_, eg_tup2, ev_callR (ed_cons (ev_var rfl) (ed_cons (ev_var rfl) ed_nil)) a rfl (hx.2 a ha)⟩) ed_nil) (rc_allF fun _ => true)) ?_ rfl
      rw [eqv_int, decide_eq_true rfl]; simp
    | tuple ds =>
      refine ht_seq (ht_if (b := true) (eb_B ((ev_isi2 (d := .tuple ds) (ev_var rfl) k_tuple_list k_tuple_tuple).is rfl)) (fun _ => ?_) fun z => nomatch z)
      refine ht_seq (ht_if (b := false) (eb_is (eb_or (eb_test (ev_op (ev_isi (d := .tuple ds) (ev_var rfl) k_tuple_list) (ev_isi (d := .tuple ds) (ev_var rfl) k_tuple_list) (ro_neD (shaped_bool _) (shaped_bool _)))) fun _ => eb_test (ev_op (ev_isi (d := .tuple ds) (ev_var rfl) k_tuple_tuple) (ev_isi (d := .tuple ds) (ev_var rfl) k_tuple_tuple) (ro_neD (shaped_bool _) (shaped_bool _)))) (by rw [eqv_bool, eqv_bool]; rfl)) (fun z => nomatch z) fun _ => ht_next ?_)
      refine ht_ret' (ev_andV (ev_op (ev_cbD (ed_cons (ev_var rfl) ed_nil) rc_lenT) (ev_cbD (ed_cons (ev_var rfl) ed_nil) rc_lenT) (ro_eqD (shaped_int _) (shaped_int _))) fun _ => ev_cbD (ed_cons (ev_lcM (xs := ds) (c := fun x => .tuple [x, x]) (fun _ => PyData.bool true) (by rw [← zip_self]; exact ei_zipT (ed_cons (ev_var rfl) (ed_cons (ev_var rfl) ed_nil)) rfl) (hv2 rfl rfl) hj2 (by have := hx.1; omega) fun a ha => ⟨_, eg_tup2, ev_callR (ed_cons (ev_var rfl) (ed_cons (ev_var rfl) ed_nil)) a rfl (hx.2 a ha)⟩) ed_nil) (rc_allF fun _ => true)) ?_ rfl
      rw [eqv_int, decide_eq_true rfl]; simp
    | none => exact hx.elim
    | dict k => exact hx.elim
theorem ok__law_same (d : Dfx K mg "_law_same" s__law_same ["_law_got", "_law_due"]) : Cal P w K mg base CX0 6 "_law_same" s__law_same ["_law_got", "_law_due"] sp__law_same := ok_sameN B0 d 6
abbrev sp__law_marks : Sp := spR (fun x : Int × List P2 => [.int x.1, dL x.2]) (fun x => 0 ≤ x.1 ∧ x.1 ≤ 64 ∧ x.2.length ≤ 1000 ∧ ∀ p ∈ x.2, 0 ≤ p.1 ∧ p.1 < x.1 ∧ 0 ≤ p.2 ∧ p.2 < x.1) fun x => dI (lmks (rgI x.1.toNat) x.2)
theorem ok__law_marks (d : Dfx K mg "_law_marks" s__law_marks ["_law_many_so", "_law_pairs_so"]) : Cal P w K mg base CX0 1 "_law_marks" s__law_marks ["_law_many_so", "_law_pairs_so"] sp__law_marks := d.cal fun f fd F => by
  refine fnR F sc__law_marks (fun _ => rfl) (by decide) fun cdv A outer s H E hr => ?_
  have hu64 := hr.units
  have hu65 := hu65_of hr
  have hu := hu_of hr
  have hu0 := hr.units0
  have nd := sc__law_marks.nd
  refine ⟨_, (pss_cons (ps_set (i := 2) nd rfl (Or.inl rfl) (pe_listRg rfl rfl B0.list (prg_1 rfl B0.range (pv 0))))
    (pss_cons (ps_for PassesOwn.never rfl (k_iL K rfl (pv 1)) (k_tup (n := 2) K rfl rfl (pgs_cons (pg_name (i := 3) nd rfl (by first | exact Or.inl rfl | exact Or.inr rfl)) (pgs_cons (pg_name (i := 4) nd rfl (by first | exact Or.inl rfl | exact Or.inr rfl)) pgs_nil))) (pss_cons (ps_asg (pe_tup (pa_cons (pe_ix (k_ixL K rfl) (pv 2) (pv 3) (fun _ _ => rfl)) (pa_cons (pe_ix (k_ixL K rfl) (pv 2) (pv 4) (fun _ _ => rfl)) pa_nil))) (k_tup (n := 2) K rfl rfl (pgs_cons (pg_name (i := 5) nd rfl (by first | exact Or.inl rfl | exact Or.inr rfl)) (pgs_cons (pg_name (i := 6) nd rfl (by first | exact Or.inl rfl | exact Or.inr rfl)) pgs_nil))))
    (pss_one (ps_setLc (i := 2) (own := [("_law_own", 7)]) rfl nd rfl rfl (sw_true rfl rfl rfl (by decide +kernel)) (k_iL K rfl (pv 2)) (blkOk_by (N := ["_law_many_so", "_law_pairs_so", "_law_marks_so", "_law_one", "_law_two", "_law_near", "_law_far", "_law_own"]) (sc := defScope s__law_marks) (own := [("_law_own", 7)]) (by decide +kernel)) (fun _ _ _ _ _ => (pg_name (i := 7) nd rfl (by first | exact Or.inl rfl | exact Or.inr rfl))) (fun _ _ _ _ _ => pts_nil) (fun _ _ _ _ _ => (pe_ifExp (pt_cmpR (k_eqD K rfl hu64) (pv 7) (pv 6) (nomark _)) (pv 5) (pv 7)))))))
    (pss_one (ps_ret (pv 2))))), ?_⟩
  rintro B ⟨many, ps⟩ ⟨h0, h1, h2, h3⟩
  dsimp only at h0 h1 h2 h3
  refine ht_seq (ht_set' (ev_listRg (ev_var rfl) h0 (by omega)) (congrArg En.d (rgD_rgI B0 many.toNat)) ?_)
  refine ht_seq (ht_for (fun i Γ => ∃ e3 e4 e5 e6, Γ = [.d (.int many), .d (dL ps), .d (dI (lmks (rgI many.toNat) (ps.take i))), e3, e4, e5, e6, .un]) (ei_list (ev_var rfl)) ⟨_, _, _, _, rfl⟩ (fun i x Γ hx ⟨e3, e4, e5, e6, e⟩ => ?_) fun Γ ⟨e3, e4, e5, e6, e⟩ => ?_)
  · subst e
    rw [List.getElem?_map] at hx
    obtain ⟨p, hp, rfl⟩ := Option.map_eq_some_iff.mp hx
    obtain ⟨a0, a1, b0, b1⟩ := h3 p (List.mem_of_getElem? hp)
    have hl : (lmks (rgI many.toNat) (ps.take i)).length = many.toNat := by rw [lmks_length, rgI_length]
    have e : ps.take (i + 1) = ps.take i ++ [p] := by rw [List.take_add_one, hp]; rfl
    have ef : lmks (rgI many.toNat) (ps.take (i + 1)) = lmk (lmks (rgI many.toNat) (ps.take i)) p := by rw [e]; unfold lmks; rw [List.foldl_append]; rfl
    rw [ef]
    generalize lmks (rgI many.toNat) (ps.take i) = ms at hl ⊢
    have hz1 : p.1.toNat < ms.length := by omega
    have hz2 : p.2.toNat < ms.length := by omega
    refine ⟨_, _, eg_tup2, ?_⟩
    refine ht_seq (ht_asg (ev_tupD (ds := [.int (ms.getD p.1.toNat 0), .int (ms.getD p.2.toNat 0)]) (ed_cons (ev_op (ev_var rfl) (ev_var rfl) (ro_ixL (z := p.1) a0 (ints_get hz1))) (ed_cons (ev_op (ev_var rfl) (ev_var rfl) (ro_ixL (z := p.2) b0 (ints_get hz2))) ed_nil)) (by show 2 ≤ 100000; decide)) eg_tup2 ?_)
    have el : dI (lmk ms p) = .list (ms.map fun o => PyData.int (if o = ms.getD p.2.toNat 0 then ms.getD p.1.toNat 0 else o)) := by
      unfold lmk
      show PyData.list _ = _
      rw [List.map_map]; rfl
    refine ht_set' (e := .d (dI (lmk ms p))) (ev_lcM (xs := ms) (c := PyData.int) (fun o => PyData.int (if o = ms.getD p.2.toNat 0 then ms.getD p.1.toNat 0 else o)) (ei_list (ev_var rfl)) (hv1 rfl) hj1 (by omega) fun a ha => ⟨_, eg_name, ev_if (b := decide (a = ms.getD p.2.toNat 0)) (eb_test ((ev_op (ev_var rfl) (ev_var rfl) (ro_eqD (shaped_int _) (shaped_int _))).is (by rw [eqv_int]))) (fun hb => ?_) fun hb => ?_⟩) (congrArg En.d el.symm) ⟨_, _, _, _, rfl⟩
    · rw [if_pos (of_decide_eq_true hb)]; exact ev_var rfl
    · rw [if_neg (of_decide_eq_false hb)]; exact ev_var rfl
  · subst e
    refine ht_ret' (ev_var rfl) ?_ rfl
    rw [List.length_map, List.take_length]
abbrev sp__law_hangs : Sp := spR (fun x : (Int × Int × List P2) × List P2 => [dN x.1.1 x.1.2.1 x.1.2.2, dT x.2]) (fun x => 1 ≤ x.1.1 ∧ 1 ≤ x.1.2.1 ∧ x.1.1 + x.1.2.1 < 64 ∧ x.2.length ≤ 1000 ∧ ∀ t ∈ x.2, InR x.1.1 x.1.2.1 t) fun x => .bool (hangsB x.1.1 x.1.2.1 x.2)
theorem ok__law_hangs (c__law_marks : Cal P w K mg base CX0 1 "_law_marks" s__law_marks ["_law_many_so", "_law_pairs_so"] sp__law_marks) (d : Dfx K mg "_law_hangs" s__law_hangs ["_law_net_here", "_law_bonds_so"]) : Cal P w K mg base CX0 2 "_law_hangs" s__law_hangs ["_law_net_here", "_law_bonds_so"] sp__law_hangs := d.cal fun f fd F => by
  refine fnR F sc__law_hangs (fun _ => rfl) (by decide) fun cdv A outer s H E hr => ?_
  have hu64 := hr.units
  have hu65 := hu65_of hr
  have hu := hu_of hr
  have hu0 := hr.units0
  obtain ⟨f__law_marks, fd__law_marks, F__law_marks, m__law_marks, b__law_marks, ok__law_marks⟩ := c__law_marks
  have nd := sc__law_hangs.nd
  refine ⟨_, (pss_cons (ps_set (i := 2) nd rfl (Or.inl rfl) (pe_call ok__law_marks (hr.mono (by decide)) rfl m__law_marks F__law_marks.kp b__law_marks .nil pass0 (pa_cons (pe_op op_add (pe_ix (k_ixT K rfl) (pv 0) pe_int (fun _ _ => rfl)) (pe_ix (k_ixT K rfl) (pv 0) pe_int (fun _ _ => rfl))) (pa_cons (pe_lc (own := [("_law_own", 3)]) rfl nd (k_iT K rfl (pv 1)) (blkOk_by (N := ["_law_net_here", "_law_bonds_so", "_law_marks_so", "_law_own"]) (sc := defScope s__law_hangs) (own := [("_law_own", 3)]) (by decide +kernel)) (fun _ _ _ _ _ => (pg_name (i := 3) nd rfl (by first | exact Or.inl rfl | exact Or.inr rfl))) (fun _ _ _ _ _ => pts_nil) (fun _ _ _ _ _ => (pe_tup (pa_cons (pe_ix (k_ixT K rfl) (pv 3) pe_int (fun _ _ => rfl)) (pa_cons (pe_op op_add (pe_ix (k_ixT K rfl) (pv 0) pe_int (fun _ _ => rfl)) (pe_ix (k_ixT K rfl) (pv 3) pe_int (fun _ _ => rfl))) pa_nil))))) pa_nil))))
    (pss_one (ps_ret (pe_cmpR (k_eqD K rfl hu64) (pv 2) (pe_op op_rep (pe_lst (pa_cons (pe_ix (k_ixL K rfl) (pv 2) pe_int (fun _ _ => rfl)) pa_nil)) (pe_callB (k_len K rfl) rfl B0.len (by decide +kernel) (pa_cons (pv 2) pa_nil))) (nomark _))))), ?_⟩
  rintro B ⟨⟨m, n, ts⟩, us⟩ ⟨h0, h1, h2, h3, h4⟩
  dsimp only at h0 h1 h2 h3 h4
  have em : PyData.list (us.map fun t => dP (t.1, m + t.2)) = dL (us.map fun t => (t.1, m + t.2)) := by show _ = PyData.list _; rw [List.map_map]; rfl
  have hl : (grownM (rgI (m + n).toNat) m us).length = (m + n).toNat := by rw [grownM_length, rgI_length]
  refine ht_seq (ht_set' (e := .d (dI (grownM (rgI (m + n).toNat) m us))) (ev_callR (ed_cons (ev_op (ev_op (ev_var rfl) ev_int ix0) (ev_op (ev_var rfl) ev_int ix1) ro_II) (ed_cons ((ev_lcM (xs := us) (c := dP) (fun t => dP (t.1, m + t.2)) (ei_tup (ev_var rfl)) (hv1 rfl) hj1 (by omega) fun a ha => ⟨_, eg_name, ev_tupD (ds := [.int a.1, .int (m + a.2)]) (ed_cons (ev_op (ev_var rfl) ev_int ix0) (ed_cons (ev_op (ev_op (ev_var rfl) ev_int ix0) (ev_op (ev_var rfl) ev_int ix1) ro_II) ed_nil)) (by show 2 ≤ 100000; decide)⟩).is (congrArg En.d em)) ed_nil)) (m + n, us.map fun t => (t.1, m + t.2)) rfl ⟨by dsimp only; omega, by dsimp only; omega, by rw [List.length_map]; exact h3, fun p hp => ?_⟩) ?_ ?_)
  · obtain ⟨t, ht, rfl⟩ := List.mem_map.mp hp
    have := h4 t ht
    dsimp only
    omega
  · rw [lmks_eq]
  · unfold hangsB
    generalize grownM (rgI (m + n).toNat) m us = ms at hl ⊢
    have hne : ms ≠ [] := fun z => by rw [z] at hl; simp at hl; omega
    have hz : (0 : Int).toNat < ms.length := by show 0 < ms.length; omega
    have er : PyData.list (List.replicate (Int.toNat ((ms.map PyData.int).length : Int)) [PyData.int (ms.getD (0 : Int).toNat 0)]).flatten = dI (List.replicate ms.length (ms.getD 0 0)) := by
      rw [flat_rep, List.length_map]
      show _ = PyData.list _
      rw [List.map_replicate]; rfl
    refine ht_ret' (ev_op (ev_var rfl) ((ev_op (ev_lstD (ds := [.int (ms.getD (0 : Int).toNat 0)]) (ed_cons (ev_op (ev_var rfl) ev_int (ro_ixL (z := 0) (Int.le_refl 0) (ints_get hz))) ed_nil) (by show 1 ≤ 100000; decide)) (ev_cbD (ed_cons (ev_var rfl) ed_nil) rc_lenL) (ro_rep (by omega) (by rw [List.length_map]; omega) (by show 1 ≤ 100; decide))).is (congrArg En.d er)) (ro_eqD (shaped_intsL _) (shaped_intsL _))) ?_ rfl
    rw [eqv_intsL, same_iff hne]
abbrev sp__law_walked : Sp := spR (fun x : (Int × Int) × List P2 × P2 => [dT x.2.1, dP x.2.2]) (fun x => Wd x.2.1 x.1.1 x.1.2 x.2.2) fun x => dT (sortP (lapsW x.2.1 x.2.1.length [x.2.2]))
theorem ok__law_walked (d : Dfx K mg "_law_walked" s__law_walked ["_law_boughs", "_law_spot"]) : Cal P w K mg base CX0 1 "_law_walked" s__law_walked ["_law_boughs", "_law_spot"] sp__law_walked := d.cal fun f fd F => by
  refine fnR F sc__law_walked (fun _ => rfl) (by decide) fun cdv A outer s H E hr => ?_
  have hu64 := hr.units
  have hu65 := hu65_of hr
  have hu := hu_of hr
  have hu0 := hr.units0
  have nd := sc__law_walked.nd
  refine ⟨_, (pss_cons (ps_set (i := 2) nd rfl (Or.inl rfl) (pe_lst (pa_cons (pv 1) pa_nil)))
    (pss_cons (ps_for PassesOwn.never rfl (pi_range1 rfl B0.range (pa_cons (pe_callB (k_len K rfl) rfl B0.len (by decide +kernel) (pa_cons (pv 0) pa_nil)) pa_nil)) (pg_name (i := 3) nd rfl (by first | exact Or.inl rfl | exact Or.inr rfl)) (pss_one (ps_for PassesOwn.never rfl (k_iT K rfl (pv 0)) (k_tup (n := 2) K rfl rfl (pgs_cons (pg_name (i := 4) nd rfl (by first | exact Or.inl rfl | exact Or.inr rfl)) (pgs_cons (pg_name (i := 5) nd rfl (by first | exact Or.inl rfl | exact Or.inr rfl)) pgs_nil))) (pss_cons (ps_if (PW.pt (pw_and (pt_cmpR (k_inD K rfl hu65) (pe_tup (pa_cons pe_int (pa_cons (pv 4) pa_nil))) (pv 2) rfl) (pw_and1 (pt_cmpR (k_notInD K rfl hu65) (pe_tup (pa_cons pe_int (pa_cons (pv 5) pa_nil))) (pv 2) rfl)))) (pss_one (ps_expr (pe_bm PySem.F.plainAttrs_list PySem.F.slot_list_append PySem.F.type_list_append mt_append (pv 2) (pa_cons (pe_tup (pa_cons pe_int (pa_cons (pv 5) pa_nil))) pa_nil)))) pss_nil)
    (pss_one (ps_if (PW.pt (pw_and (pt_cmpR (k_inD K rfl hu65) (pe_tup (pa_cons pe_int (pa_cons (pv 5) pa_nil))) (pv 2) rfl) (pw_and1 (pt_cmpR (k_notInD K rfl hu65) (pe_tup (pa_cons pe_int (pa_cons (pv 4) pa_nil))) (pv 2) rfl)))) (pss_one (ps_expr (pe_bm PySem.F.plainAttrs_list PySem.F.slot_list_append PySem.F.type_list_append mt_append (pv 2) (pa_cons (pe_tup (pa_cons pe_int (pa_cons (pv 4) pa_nil))) pa_nil)))) pss_nil))))))
    (pss_one (ps_ret (pe_callTy (k_tuple K rfl) rfl B0.tuple (by decide +kernel) (pa_cons (pe_callB (cr_sortT (d := 2) (B := 64) (by decide)) rfl B0.sorted (by decide +kernel) (pa_cons (pv 2) pa_nil)) pa_nil)))))), ?_⟩
  rintro B ⟨⟨m, n⟩, us, spot⟩ h
  dsimp only at h
  have w0 : WI us m n spot [spot] := ⟨by simp, fun p hp => by rw [List.mem_singleton.mp hp]; exact ⟨.refl _, h.p⟩, by simp⟩
  have mn := h.mn
  have m0 := h.m0
  have n0 := h.n0
  have bl : ∀ {f}, WI us m n spot f → f.length < 64 := fun {f} wi => by
    have := wi.nd.length_le_of_subset (l₂ := spots m n) fun p hp => mem_spots.mpr (wi.con p hp).2
    rw [spots_length] at this
    omega
  refine ht_seq (ht_set (ev_lstM (ds := [dP spot]) (ea_cons (ev_var rfl) ea_nil) (by show 1 ≤ 100000; decide)) ?_)
  refine ht_seq (ht_for (fun i Γ => ∃ e3 e4 e5, Γ = [.d (dT us), .d (dP spot), .m (.l ((lapsW us i [spot]).map dP)), e3, e4, e5]) (ei_rng1 (ed_cons (ev_cbD (ed_cons (ev_var rfl) ed_nil) rc_lenT) ed_nil) (by omega) (by rw [List.length_map]; show (us.length : Int) ≤ _; have : us.length ≤ 1000 := h.z; omega)) ⟨_, _, _, rfl⟩ (fun i x Γ hx ⟨e3, e4, e5, e⟩ => ?_) fun Γ ⟨e3, e4, e5, e⟩ => ?_)
  · subst e
    obtain ⟨_, rfl⟩ := rgD_get hx
    refine ⟨_, _, eg_name, ?_⟩
    refine ht_for (fun j Γ => ∃ e3 e4 e5, Γ = [.d (dT us), .d (dP spot), .m (.l (((us.take j).foldl walkT (lapsW us i [spot])).map dP)), e3, e4, e5]) (ei_tup (ev_var rfl)) ⟨_, _, _, rfl⟩ (fun j x Γ hx ⟨e3, e4, e5, e⟩ => ?_) fun Γ ⟨e3, e4, e5, e⟩ => ?_
    · subst e
      rw [List.getElem?_map] at hx
      obtain ⟨t, ht, rfl⟩ := Option.map_eq_some_iff.mp hx
      have htt := List.mem_of_getElem? ht
      have e : us.take (j + 1) = us.take j ++ [t] := by rw [List.take_add_one, ht]; rfl
      have wi := WI.lapF h.r (us.take j) _ (fun u z => List.mem_of_mem_take z) (w0.lapsW h.r i)
      rw [e, List.foldl_append]
      show ∃ Γ1 js, EvG _ _ _ _ Γ1 js ∧ HT _ _ Γ1 (fun Γ => ∃ e3 e4 e5, Γ = [.d (dT us), .d (dP spot), .m (.l ((walkT ((us.take j).foldl walkT (lapsW us i [spot])) t).map dP)), e3, e4, e5]) _
      generalize (us.take j).foldl walkT (lapsW us i [spot]) = f at wi ⊢
      have bf := bl wi
      have t0 : EvE B (tTup (tCons (tC (.int 0)) (tCons (tVar 4) tNil))) [.d (dT us), .d (dP spot), .m (.l (f.map dP)), e3, .d (.int t.1), .d (.int t.2)] (.d (dP (0, t.1))) := ev_tupD (ds := [.int 0, .int t.1]) (ed_cons ev_int (ed_cons (ev_var rfl) ed_nil)) (by show 2 ≤ 100000; decide)
      have t1 : EvE B (tTup (tCons (tC (.int 1)) (tCons (tVar 5) tNil))) [.d (dT us), .d (dP spot), .m (.l (f.map dP)), e3, .d (.int t.1), .d (.int t.2)] (.d (dP (1, t.2))) := ev_tupD (ds := [.int 1, .int t.2]) (ed_cons ev_int (ed_cons (ev_var rfl) ed_nil)) (by show 2 ≤ 100000; decide)
      refine ⟨_, _, eg_tup2, ht_seq (ht_imp (N' := fun Γ => Γ = [.d (dT us), .d (dP spot), .m (.l ((walkA f t).map dP)), e3, .d (.int t.1), .d (.int t.2)]) (ht_if (b := decide ((0, t.1) ∈ f) && !decide ((1, t.2) ∈ f)) (eb_and (eb_test ((ev_inM t0 rfl (shaped_pair _) (shaped_pairsL f)).is (by rw [any_pair]))) fun _ => eb_test ((ev_notInM t1 rfl (shaped_pair _) (shaped_pairsL f)).is (by rw [any_pair]))) (fun hb => ?_) fun hb => ?_) fun Γ e => ?_)⟩
      · rw [Bool.and_eq_true, Bool.not_eq_true'] at hb
        have ea : walkA f t = f ++ [(1, t.2)] := by unfold walkA; rw [if_pos ⟨of_decide_eq_true hb.1, of_decide_eq_false hb.2⟩]
        rw [ea, List.map_append]
        exact ht_app rfl t1 (by rw [List.length_map]; omega) rfl
      · have ea : walkA f t = f := by
          unfold walkA
          rw [if_neg]
          rintro ⟨a, b⟩
          rw [decide_eq_true a, decide_eq_false b] at hb
          cases hb
        rw [ea]
        exact ht_next rfl
      · subst e
        have bf2 : (walkA f t).length ≤ f.length + 1 := by
          unfold walkA
          split
          · rw [List.length_append]; exact Nat.le_refl _
          · omega
        have u0 : EvE B (tTup (tCons (tC (.int 0)) (tCons (tVar 4) tNil))) [.d (dT us), .d (dP spot), .m (.l ((walkA f t).map dP)), e3, .d (.int t.1), .d (.int t.2)] (.d (dP (0, t.1))) := ev_tupD (ds := [.int 0, .int t.1]) (ed_cons ev_int (ed_cons (ev_var rfl) ed_nil)) (by show 2 ≤ 100000; decide)
        have u1 : EvE B (tTup (tCons (tC (.int 1)) (tCons (tVar 5) tNil))) [.d (dT us), .d (dP spot), .m (.l ((walkA f t).map dP)), e3, .d (.int t.1), .d (.int t.2)] (.d (dP (1, t.2))) := ev_tupD (ds := [.int 1, .int t.2]) (ed_cons ev_int (ed_cons (ev_var rfl) ed_nil)) (by show 2 ≤ 100000; decide)
        refine ht_if (b := decide ((1, t.2) ∈ walkA f t) && !decide ((0, t.1) ∈ walkA f t)) (eb_and (eb_test ((ev_inM u1 rfl (shaped_pair _) (shaped_pairsL _)).is (by rw [any_pair]))) fun _ => eb_test ((ev_notInM u0 rfl (shaped_pair _) (shaped_pairsL _)).is (by rw [any_pair]))) (fun hb => ?_) fun hb => ?_
        · rw [Bool.and_eq_true, Bool.not_eq_true'] at hb
          have ea : walkT f t = walkA f t ++ [(0, t.1)] := by unfold walkT walkB; rw [if_pos ⟨of_decide_eq_true hb.1, of_decide_eq_false hb.2⟩]
          rw [ea, List.map_append]
          exact ht_app rfl u0 (by rw [List.length_map]; omega) ⟨_, _, _, rfl⟩
        · have ea : walkT f t = walkA f t := by
            unfold walkT walkB
            rw [if_neg]
            rintro ⟨a, b⟩
            rw [decide_eq_true a, decide_eq_false b] at hb
            cases hb
          rw [ea]
          exact ht_next ⟨_, _, _, rfl⟩
    · subst e
      refine ⟨e3, e4, e5, ?_⟩
      rw [List.length_map, List.take_length]
      rfl
  · subst e
    have er : (rgD 0 (Int.toNat ((us.map dP).length : Int))).length = us.length := by simp [rgD]
    rw [er]
    have wi := w0.lapsW h.r us.length
    refine ht_frz (i := 2) rfl (ht_ret (ev_cbD (ed_cons (ev_sortedL (ev_var rfl) (bl wi) fun p hp => BdP_of (wi.con p hp).2 mn m0 n0) ed_nil) rc_tupL) rfl)
end
end G

set_option Elab.async false
set_option linter.all false
set_option maxRecDepth 100000
set_option maxHeartbeats 4000000
namespace G
open PySem L2
abbrev s__law_ring : Stmt := top 51
theorem sc__law_ring : FnScope ["_law_many_so", "_law_found", "_law_own"] ["_law_many_so"] (defScope s__law_ring) := ⟨rfl, rfl, rfl, by decide +kernel, rfl, by decide +kernel, by decide +kernel⟩
abbrev s__law_house : Stmt := top 52
theorem sc__law_house : FnScope [] [] (defScope s__law_house) := ⟨rfl, rfl, rfl, by decide +kernel, rfl, by decide +kernel, by decide +kernel⟩
abbrev s__law_house_tree : Stmt := top 53
theorem sc__law_house_tree : FnScope [] [] (defScope s__law_house_tree) := ⟨rfl, rfl, rfl, by decide +kernel, rfl, by decide +kernel, by decide +kernel⟩
def ringP : List P2 := (List.range 12).map (fun (i : Nat) => ((0 : Int) + i, (0 : Int) + i)) ++ (List.range 12).map fun (i : Nat) => ((0 : Int) + i, ((0 : Int) + i + 1) % 12)
def houseP : List P2 := [(0, 0), (0, 1), (1, 0), (1, 1), (2, 1), (2, 2)]
def houseT : List P2 := [(0, 0), (0, 1), (1, 1), (2, 1), (2, 2)]
theorem ev_pr {B : Bs} {Γ : List En} {a b : Int} : EvE B (tTup (tCons (tC (.int a)) (tCons (tC (.int b)) tNil))) Γ (.d (dP (a, b))) := ev_tupD (ds := [.int a, .int b]) (ed_cons ev_int (ed_cons ev_int ed_nil)) (by show 2 ≤ 100000; decide)
section
variable {P : Program} {w : World} {K : PySem.W.Frag} {mg : Str → Option Value} {base : Heap} (B0 : Bi mg)
include B0
abbrev sp__law_way : Sp := spR (fun x : (Int × Int × List P2) × List P2 × P2 × P2 => [dN x.1.1 x.1.2.1 x.1.2.2, dT x.2.1, dP x.2.2.1, dP x.2.2.2]) (fun x => Wd x.2.1 x.1.1 x.1.2.1 x.2.2.1 ∧ Con x.2.1 x.2.2.1 x.2.2.2) fun x => dT (wayOf x.2.1 x.2.2.1 x.2.2.2)
theorem ok__law_way (d : Dfx K mg "_law_way" s__law_way ["_law_net_here", "_law_boughs", "_law_spot", "_law_goal_so"]) : Cal P w K mg base CX0 1 "_law_way" s__law_way ["_law_net_here", "_law_boughs", "_law_spot", "_law_goal_so"] sp__law_way := d.cal fun f fd F => by
  refine fnR F sc__law_way (fun _ => rfl) (by decide) fun cdv A outer s H E hr => ?_
  have hu64 := hr.units
  have hu65 := hu65_of hr
  have hu := hu_of hr
  have hu0 := hr.units0
  have nd := sc__law_way.nd
  refine ⟨_, (pss_cons (ps_set (i := 4) nd rfl (Or.inl rfl) (pe_lst (pa_cons (pe_tup (pa_cons (pv 2) (pa_cons (pe_tup pa_nil) pa_nil))) pa_nil)))
    (pss_cons (ps_set (i := 5) nd rfl (Or.inl rfl) (pe_disp1T hu (pv 2) pe_bl))
    (pss_cons (ps_while PassesOwn.never (pt_cmpR (k_neD K rfl hu64) (pv 4) (pe_lst pa_nil) (nomark _)) (pss_cons (ps_set (i := 6) nd rfl (Or.inl rfl) (pe_lst pa_nil))
    (pss_cons (ps_for PassesOwn.never rfl (k_iL K rfl (pv 4)) (k_tup (n := 2) K rfl rfl (pgs_cons (pg_name (i := 7) nd rfl (by first | exact Or.inl rfl | exact Or.inr rfl)) (pgs_cons (pg_name (i := 8) nd rfl (by first | exact Or.inl rfl | exact Or.inr rfl)) pgs_nil))) (pss_cons (ps_if (pt_cmpR (k_eqD K rfl hu64) (pv 7) (pv 3) (nomark _)) (pss_one (ps_ret (pv 8))) pss_nil)
    (pss_one (ps_for PassesOwn.never rfl (k_iT K rfl (pv 1)) (pg_name (i := 9) nd rfl (by first | exact Or.inl rfl | exact Or.inr rfl)) (pss_cons (ps_set (i := 10) nd rfl (Or.inl rfl) (pe_tup (pa_cons (pe_op op_sub pe_int (pe_ix (k_ixT K rfl) (pv 7) pe_int (fun _ _ => rfl))) (pa_cons (pe_ix (k_ixT K rfl) (pv 9) (pe_op op_sub pe_int (pe_ix (k_ixT K rfl) (pv 7) pe_int (fun _ _ => rfl))) (fun _ _ => rfl)) pa_nil))))
    (pss_one (ps_if (PW.pt (pw_and (pt_cmpR (k_eqD K rfl hu64) (pe_ix (k_ixT K rfl) (pv 9) (pe_ix (k_ixT K rfl) (pv 7) pe_int (fun _ _ => rfl)) (fun _ _ => rfl)) (pe_ix (k_ixT K rfl) (pv 7) pe_int (fun _ _ => rfl)) (nomark _)) (pw_and1 (pt_cmp (pc_dnotin hu (pv 10) (pv 5)))))) (pss_cons (ps_dput hu (pv 5) (pv 10) pe_bl rfl)
    (pss_one (ps_expr (pe_bm PySem.F.plainAttrs_list PySem.F.slot_list_append PySem.F.type_list_append mt_append (pv 6) (pa_cons (pe_tup (pa_cons (pv 10) (pa_cons (pe_op (k_catA K rfl) (pv 8) (pe_tup (pa_cons (pv 9) pa_nil))) pa_nil))) pa_nil))))) pss_nil)))))))
    (pss_one (ps_set (i := 4) nd rfl (Or.inl rfl) (pv 6))))))
    (pss_one (ps_ret pe_non))))), ?_⟩
  rintro B ⟨⟨m, n, ts⟩, us, spot, goal⟩ ⟨h, hc⟩
  dsimp only at h hc
  have bl : ∀ {f}, BI us m n spot f → f.length < 64 := fun {f} b => by have := b.length; have := h.mn; have := h.m0; have := h.n0; omega
  refine ht_seq (ht_set (e := .d (.list [wd (spot, [])])) (ev_lstD (ds := [wd (spot, [])]) (ed_cons (ev_tupD (ds := [dP spot, dT []]) (ed_cons (ev_var rfl) (ed_cons (ev_tupD (ds := []) ed_nil (by decide)) ed_nil)) (by show 2 ≤ 100000; decide)) ed_nil) (by show 1 ≤ 100000; decide)) ?_)
  refine ht_seq (ht_set (ev_disp (k := spot) (ev_var rfl) ev_bl) ?_)
  refine ht_seq (ht_while (fun k Γ => ∃ (f : Fnd) (L : List (P2 × List P2)) (e6 e7 e8 e9 e10 : En), Γ = [.d (dN m n ts), .d (dT us), .d (dP spot), .d (dP goal), .d (.list (L.map wd)), .m (.t (seenD f)), e6, e7, e8, e9, e10] ∧ Mid us m n spot k f (L.map (·.1)) ∧ bfsM us k f (L.map (·.1)) = stepsM us spot ∧ (∀ x ∈ L, PathTo f x.1 x.2) ∧ (goal ∈ keys f → goal ∈ L.map (·.1))) 100
    ⟨[(spot, none)], [(spot, [])], _, _, _, _, _, rfl, Mid.start h.p h.mn h.m0 h.n0, rfl, fun x hx => by rw [List.mem_singleton.mp hx]; exact .nil (by simp), fun z => by simpa [keys] using z⟩ ?_)
  rintro k Γ ⟨f, L, e6, e7, e8, e9, e10, rfl, hm, he, hp, hg⟩
  refine ⟨decide (L ≠ []), eb_test ((ev_op (ev_var rfl) (ev_lstD ed_nil (by show 0 ≤ 100000; decide)) (ro_neD (shaped_ways L) (shaped_pairsL []))).is ?_), fun hb => ?_, fun hb => ?_⟩
  · rw [eqv_ways]; simp
  · have hb := of_decide_eq_true hb
    have hb2 : L.map (·.1) ≠ [] := fun z => hb (List.map_eq_nil_iff.mp z)
    have fsub := (Mid.fin h.r k f _ hm).2
    rw [he] at fsub
    obtain ⟨j, rfl, lap, hm', e⟩ := hm.lap h.r hb2
    refine ht_seq (ht_set (ev_lstM (ds := []) ea_nil) ?_)
    refine ht_seq (ht_for (fun i Γ => ∃ (L2 : List (P2 × List P2)) (e7 e8 e9 e10 : En), Γ = [.d (dN m n ts), .d (dT us), .d (dP spot), .d (dP goal), .d (.list (L.map wd)), .m (.t (seenD (((L.take i).map (·.1)).foldl (stepO us) (f, [])).1)), .m (.l (L2.map wd)), e7, e8, e9, e10] ∧ L2.map (·.1) = (((L.take i).map (·.1)).foldl (stepO us) (f, [])).2 ∧
      (∀ x ∈ L2, PathTo (((L.take i).map (·.1)).foldl (stepO us) (f, [])).1 x.1 x.2) ∧ ∀ x ∈ L.take i, x.1 ≠ goal) (ei_list (ev_var rfl)) ⟨[], _, _, _, _, rfl, rfl, (fun x hx => by cases hx), fun x hx => by cases hx⟩ ?_ ?_)
    · rintro i x Γ hx ⟨L2, e7, e8, e9, e10, rfl, q1, q2, q3⟩
      rw [List.getElem?_map] at hx
      obtain ⟨⟨own, u⟩, hown, rfl⟩ := Option.map_eq_some_iff.mp hx
      have hol := List.mem_of_getElem? hown
      have ho : own ∈ keys f := hm.nw own (List.mem_map.mpr ⟨_, hol, rfl⟩)
      have sd := (hm.bi.sp own ho).side
      have et : L.take (i + 1) = L.take i ++ [(own, u)] := by rw [List.take_add_one, hown]; rfl
      have l0 := Lap.foldO h.r ((L.take i).map (·.1)) (f, []) (fun o z => by
        obtain ⟨y, hy, rfl⟩ := List.mem_map.mp z
        exact hm.nw _ (List.mem_map.mpr ⟨y, List.mem_of_mem_take hy, rfl⟩)) (Lap.start hm.bi)
      refine ⟨_, _, eg_tup2, ht_seq (ht_if (b := decide (own = goal)) (eb_test ((ev_op (ev_var rfl) (ev_var rfl) (ro_eqD (shaped_pair own) (shaped_pair goal))).is (by rw [eqv_pair]))) (fun hb => ?_) fun hb => ht_next ?_)⟩
      · have hb := of_decide_eq_true hb
        subst hb
        refine ht_ret' (e := .d (dT (wayOf us spot own))) (e' := .d (dT u)) (ev_var rfl) ?_ rfl
        rw [h.wayOf ((hp _ hol).mono fsub)]
      · have hb := of_decide_eq_false hb
        rw [et]
        rw [List.map_append, List.foldl_append]
        show HT _ _ _ (fun Γ => ∃ (L2 : List (P2 × List P2)) (e7 e8 e9 e10 : En), Γ = [.d (dN m n ts), .d (dT us), .d (dP spot), .d (dP goal), .d (.list (L.map wd)), .m (.t (seenD (stepO us (((L.take i).map (·.1)).foldl (stepO us) (f, [])) own).1)), .m (.l (L2.map wd)), e7, e8, e9, e10] ∧ L2.map (·.1) = (stepO us (((L.take i).map (·.1)).foldl (stepO us) (f, [])) own).2 ∧
          (∀ x ∈ L2, PathTo (stepO us (((L.take i).map (·.1)).foldl (stepO us) (f, [])) own).1 x.1 x.2) ∧ ∀ x ∈ L.take i ++ [(own, u)], x.1 ≠ goal) _
        generalize ((L.take i).map (·.1)).foldl (stepO us) (f, []) = s0 at l0 q1 q2 ⊢
        refine ht_for (fun i2 Γ => ∃ (L2 : List (P2 × List P2)) (e9 e10 : En), Γ = [.d (dN m n ts), .d (dT us), .d (dP spot), .d (dP goal), .d (.list (L.map wd)), .m (.t (seenD ((us.take i2).foldl (stepT own) s0).1)), .m (.l (L2.map wd)), .d (dP own), .d (dT u), e9, e10] ∧ L2.map (·.1) = ((us.take i2).foldl (stepT own) s0).2 ∧
          ∀ x ∈ L2, PathTo ((us.take i2).foldl (stepT own) s0).1 x.1 x.2) (ei_tup (ev_var rfl)) ⟨L2, _, _, rfl, q1, q2⟩ ?_ ?_
        · rintro i2 x Γ hx ⟨L2, e9, e10, rfl, q1, q2⟩
          rw [List.getElem?_map] at hx
          obtain ⟨t, ht, rfl⟩ := Option.map_eq_some_iff.mp hx
          have htt := List.mem_of_getElem? ht
          have et2 : us.take (i2 + 1) = us.take i2 ++ [t] := by rw [List.take_add_one, ht]; rfl
          have l1 := Lap.foldT ho (us.take i2) _ (fun u z => ⟨List.mem_of_mem_take z, h.r u (List.mem_of_mem_take z)⟩) l0
          refine ⟨_, _, eg_name, ?_⟩
          rw [et2, List.foldl_append]
          show HT _ _ _ (fun Γ => ∃ (L2 : List (P2 × List P2)) (e9 e10 : En), Γ = [.d (dN m n ts), .d (dT us), .d (dP spot), .d (dP goal), .d (.list (L.map wd)), .m (.t (seenD (stepT own ((us.take i2).foldl (stepT own) s0) t).1)), .m (.l (L2.map wd)), .d (dP own), .d (dT u), e9, e10] ∧ L2.map (·.1) = (stepT own ((us.take i2).foldl (stepT own) s0) t).2 ∧
            ∀ x ∈ L2, PathTo (stepT own ((us.take i2).foldl (stepT own) s0) t).1 x.1 x.2) _
          generalize (us.take i2).foldl (stepT own) s0 = s at l1 q1 q2 ⊢
          refine ht_seq (ht_set (e := .d (dP (goalP own t))) (ev_tupD (ed_cons (ev_op ev_int (ev_op (ev_var rfl) ev_int ix0) ro_II) (ed_cons (ev_op (ev_var rfl) (ev_op ev_int (ev_op (ev_var rfl) ev_int ix0) ro_II) (ro_ixT (side_nn (flip_side sd)) (sideP_get (flip_side sd)))) ed_nil)) (by show 2 ≤ 100000; decide)) ?_)
          refine ht_if (b := decide (sideP t own.1 = own.2) && !decide (goalP own t ∈ keys s.1)) (eb_and (eb_test ((ev_op (ev_op (ev_var rfl) (ev_op (ev_var rfl) ev_int ix0) (ro_ixT (side_nn sd) (sideP_get sd))) (ev_op (ev_var rfl) ev_int ix1) (ro_eqD (shaped_int _) (shaped_int _))).is (by rw [eqv_int]))) fun _ => eb_B ((ev_dnotin (k := goalP own t) (ev_var rfl) rfl).is (by rw [hasD_seen]))) (fun hb => ?_) fun hb => ?_
          · rw [Bool.and_eq_true, Bool.not_eq_true'] at hb
            obtain ⟨h1, h2⟩ := hb
            have est : stepT own s t = (s.1 ++ [(goalP own t, some (t, own))], s.2 ++ [goalP own t]) := by
              unfold stepT
              rw [if_pos ⟨of_decide_eq_true h1, of_decide_eq_false h2⟩]
            have hl2 : L2.length < 64 := by
              have a := l1.len
              have b := bl l1.bi
              rw [← q1, List.length_map] at a
              omega
            have hu : (u.map dP).length ≤ 64 := by
              obtain ⟨v, h1, h2, h3, _⟩ := hm.bi.path own ho
              have eu : u = v := (hp _ hol).uniq hm.bi.nd h1
              rw [eu, List.length_map]
              have := bl hm.bi
              omega
            have pown : PathTo s.1 own u := (hp _ hol).mono l1.sub
            have ew : (.tuple [dP (goalP own t), .tuple (u.map dP ++ [dP t])] : D) = wd (goalP own t, u ++ [t]) := by unfold wd; rw [show dT (u ++ [t]) = .tuple (u.map dP ++ [dP t]) by show PyData.tuple _ = _; rw [List.map_append]; rfl]
            refine ht_seq (ht_dput rfl ev_bl (ev_var rfl) (by unfold seenD; rw [List.length_map]; have := bl l1.bi; simp only [keys, List.length_map]; omega) ?_)
            refine ht_app (x := wd (goalP own t, u ++ [t])) rfl ((ev_tupD (ds := [dP (goalP own t), .tuple (u.map dP ++ [dP t])]) (ed_cons (ev_var rfl) (ed_cons (ev_op (ev_var rfl) (ev_tupD (ds := [dP t]) (ed_cons (ev_var rfl) ed_nil) (by show 1 ≤ 100000; decide)) (ro_catT (by show _ + 1 ≤ _; omega))) ed_nil)) (by show 2 ≤ 100000; decide)).is (congrArg En.d ew)) (by rw [List.length_map]; omega) ⟨L2 ++ [(goalP own t, u ++ [t])], .d (dP t), .d (dP (goalP own t)), ?_, ?_, ?_⟩
            · rw [est, seenD_snoc, putD_new (by rw [hasD_seen]; exact h2), List.map_append]
              rfl
            · rw [est, List.map_append, q1]; rfl
            · intro x hx
              rw [est]
              have sub : ∀ y ∈ s.1, y ∈ s.1 ++ [(goalP own t, some (t, own))] := fun y hy => List.mem_append_left _ hy
              rcases List.mem_append.mp hx with z | z
              · exact (q2 x z).mono sub
              · rw [List.mem_singleton.mp z]
                exact .snoc (List.mem_append_right _ (List.mem_singleton.mpr rfl)) (pown.mono sub)
          · have est : stepT own s t = s := by
              unfold stepT
              rw [if_neg]
              rintro ⟨a, b⟩
              rw [decide_eq_true a, decide_eq_false b] at hb
              cases hb
            rw [est]
            exact ht_next ⟨L2, _, _, rfl, q1, q2⟩
        · rintro Γ ⟨L2, e9, e10, rfl, q1, q2⟩
          rw [List.length_map, List.take_length] at q1 q2 ⊢
          refine ⟨L2, .d (dP own), .d (dT u), e9, e10, rfl, q1, q2, fun x hx => ?_⟩
          rcases List.mem_append.mp hx with z | z
          · exact q3 x z
          · rw [List.mem_singleton.mp z]; exact hb
    · rintro Γ ⟨L2, e7, e8, e9, e10, rfl, q1, q2, q3⟩
      rw [List.length_map, List.take_length] at q1 q2 q3 ⊢
      refine ht_frz (i := 6) rfl (ht_set (ev_var rfl) ⟨j, Nat.lt_succ_self j, _, L2, _, _, _, _, _, rfl, ?_, ?_, q2, fun hk => ?_⟩)
      · rw [q1]; exact hm'
      · rw [q1, ← e, he]
      · rw [lap.ks] at hk
        rcases List.mem_append.mp hk with z | z
        · obtain ⟨x, hx, ex⟩ := List.mem_map.mp (hg z)
          exact absurd ex (q3 x hx)
        · rw [q1]; exact z
  · have hb : L = [] := by
      by_cases z : L = []
      · exact z
      · exact absurd (decide_eq_true z) (by rw [hb]; exact Bool.false_ne_true)
    subst hb
    exfalso
    rw [List.map_nil, bfsM_nil] at he
    subst he
    have := hg (h.mem.mpr hc)
    cases this
abbrev sp__law_ring : Sp := spR (fun x : Int => [.int x]) (fun x => x = 12) fun _ => dN 12 12 (sortP ringP)
theorem ok__law_ring (d : Dfx K mg "_law_ring" s__law_ring ["_law_many_so"]) : Cal P w K mg base CX0 1 "_law_ring" s__law_ring ["_law_many_so"] sp__law_ring := d.cal fun f fd F => by
  refine fnR F sc__law_ring (fun _ => rfl) (by decide) fun cdv A outer s H E hr => ?_
  have hu64 := hr.units
  have hu65 := hu65_of hr
  have hu := hu_of hr
  have hu0 := hr.units0
  have nd := sc__law_ring.nd
  refine ⟨_, (pss_cons (ps_set (i := 1) nd rfl (Or.inl rfl) (pe_op op_cat (pe_lc (own := [("_law_own", 2)]) rfl nd (pi_range1 rfl B0.range (pa_cons (pv 0) pa_nil)) (blkOk_by (N := ["_law_many_so", "_law_found", "_law_own"]) (sc := defScope s__law_ring) (own := [("_law_own", 2)]) (by decide +kernel)) (fun _ _ _ _ _ => (pg_name (i := 2) nd rfl (by first | exact Or.inl rfl | exact Or.inr rfl))) (fun _ _ _ _ _ => pts_nil) (fun _ _ _ _ _ => (pe_tup (pa_cons (pv 2) (pa_cons (pv 2) pa_nil))))) (pe_lc (own := [("_law_own", 2)]) rfl nd (pi_range1 rfl B0.range (pa_cons (pv 0) pa_nil)) (blkOk_by (N := ["_law_many_so", "_law_found", "_law_own"]) (sc := defScope s__law_ring) (own := [("_law_own", 2)]) (by decide +kernel)) (fun _ _ _ _ _ => (pg_name (i := 2) nd rfl (by first | exact Or.inl rfl | exact Or.inr rfl))) (fun _ _ _ _ _ => pts_nil) (fun _ _ _ _ _ => (pe_tup (pa_cons (pv 2) (pa_cons (pe_op op_mod (pe_callTy call_int1 rfl B0.int (by decide +kernel) (pa_cons (pe_op op_add (pv 2) pe_int) pa_nil)) (pv 0)) pa_nil)))))))
    (pss_one (ps_ret (pe_tup (pa_cons (pv 0) (pa_cons (pv 0) (pa_cons (pe_callTy (k_tuple K rfl) rfl B0.tuple (by decide +kernel) (pa_cons (pe_callB (cr_sortT (d := 2) (B := 64) (by decide)) rfl B0.sorted (by decide +kernel) (pa_cons (pv 1) pa_nil)) pa_nil)) pa_nil))))))), ?_⟩
  rintro B x rfl
  have e1 : PyData.list ((List.range 12).map (fun (i : Nat) => dP ((0 : Int) + i, (0 : Int) + i)) ++ (List.range 12).map fun (i : Nat) => dP ((0 : Int) + i, ((0 : Int) + i + 1) % 12)) = dL ringP := by
    show _ = PyData.list _
    unfold ringP
    rw [List.map_append, List.map_map, List.map_map]; rfl
  refine ht_seq (ht_set' (e := .d (dL ringP)) (ev_op (ev_lcM (xs := List.range 12) (c := fun (i : Nat) => PyData.int ((0 : Int) + i)) (fun (i : Nat) => dP ((0 : Int) + i, (0 : Int) + i)) (ei_rng1 (n := 12) (ed_cons (ev_var rfl) ed_nil) (by decide) (by decide)) (hv1 rfl) hj1 (by decide) fun i _ => ⟨_, eg_name, ev_tupD (ds := [.int (0 + i), .int (0 + i)]) (ed_cons (ev_var rfl) (ed_cons (ev_var rfl) ed_nil)) (by show 2 ≤ 100000; decide)⟩)
    (ev_lcM (xs := List.range 12) (c := fun (i : Nat) => PyData.int ((0 : Int) + i)) (fun (i : Nat) => dP ((0 : Int) + i, ((0 : Int) + i + 1) % 12)) (ei_rng1 (n := 12) (ed_cons (ev_var rfl) ed_nil) (by decide) (by decide)) (hv1 rfl) hj1 (by decide) fun i _ => ⟨_, eg_name, ev_tupD (ds := [.int (0 + i), .int ((0 + i + 1) % 12)]) (ed_cons (ev_var rfl) (ed_cons (ev_op (ev_cbD (ed_cons (ev_op (ev_var rfl) ev_int ro_II) ed_nil) rc_int) (ev_var rfl) (ro_IC (by decide))) ed_nil)) (by show 2 ≤ 100000; decide)⟩) (ro_cat (by decide))) (congrArg En.d e1) ?_)
  refine ht_ret (ev_tupD (ds := [.int 12, .int 12, dT (sortP ringP)]) (ed_cons (ev_var rfl) (ed_cons (ev_var rfl) (ed_cons (ev_cbD (ed_cons (ev_sortedL (ev_var rfl) (by decide) (by decide)) ed_nil) rc_tupL) ed_nil))) (by show 3 ≤ 100000; decide)) rfl
abbrev sp__law_house : Sp := spR (fun _ : Unit => []) (fun _ => True) fun _ => dN 3 3 houseP
theorem ok__law_house (d : Dfx K mg "_law_house" s__law_house []) : Cal P w K mg base CX0 1 "_law_house" s__law_house [] sp__law_house := d.cal fun f fd F => by
  refine fnR F sc__law_house (fun _ => rfl) (by decide) fun cdv A outer s H E hr => ?_
  have hu64 := hr.units
  have hu65 := hu65_of hr
  have hu := hu_of hr
  have hu0 := hr.units0
  have nd := sc__law_house.nd
  refine ⟨_, (pss_one (ps_ret (pe_tup (pa_cons pe_int (pa_cons pe_int (pa_cons (pe_tup (pa_cons (pe_tup (pa_cons pe_int (pa_cons pe_int pa_nil))) (pa_cons (pe_tup (pa_cons pe_int (pa_cons pe_int pa_nil))) (pa_cons (pe_tup (pa_cons pe_int (pa_cons pe_int pa_nil))) (pa_cons (pe_tup (pa_cons pe_int (pa_cons pe_int pa_nil))) (pa_cons (pe_tup (pa_cons pe_int (pa_cons pe_int pa_nil))) (pa_cons (pe_tup (pa_cons pe_int (pa_cons pe_int pa_nil))) pa_nil))))))) pa_nil)))))), ?_⟩
  rintro B x _
  exact ht_ret (ev_tupD (ds := [.int 3, .int 3, dT houseP]) (ed_cons ev_int (ed_cons ev_int (ed_cons (ev_tupD (ed_cons ev_pr (ed_cons ev_pr (ed_cons ev_pr (ed_cons ev_pr (ed_cons ev_pr (ed_cons ev_pr ed_nil)))))) (by show 6 ≤ 100000; decide)) ed_nil))) (by show 3 ≤ 100000; decide)) rfl
abbrev sp__law_house_tree : Sp := spR (fun _ : Unit => []) (fun _ => True) fun _ => dT houseT
theorem ok__law_house_tree (d : Dfx K mg "_law_house_tree" s__law_house_tree []) : Cal P w K mg base CX0 1 "_law_house_tree" s__law_house_tree [] sp__law_house_tree := d.cal fun f fd F => by
  refine fnR F sc__law_house_tree (fun _ => rfl) (by decide) fun cdv A outer s H E hr => ?_
  have hu64 := hr.units
  have hu65 := hu65_of hr
  have hu := hu_of hr
  have hu0 := hr.units0
  have nd := sc__law_house_tree.nd
  refine ⟨_, (pss_one (ps_ret (pe_tup (pa_cons (pe_tup (pa_cons pe_int (pa_cons pe_int pa_nil))) (pa_cons (pe_tup (pa_cons pe_int (pa_cons pe_int pa_nil))) (pa_cons (pe_tup (pa_cons pe_int (pa_cons pe_int pa_nil))) (pa_cons (pe_tup (pa_cons pe_int (pa_cons pe_int pa_nil))) (pa_cons (pe_tup (pa_cons pe_int (pa_cons pe_int pa_nil))) pa_nil)))))))), ?_⟩
  rintro B x _
  exact ht_ret (ev_tupD (ed_cons ev_pr (ed_cons ev_pr (ed_cons ev_pr (ed_cons ev_pr (ed_cons ev_pr ed_nil))))) (by show 5 ≤ 100000; decide)) rfl
end
end G

set_option Elab.async false
set_option linter.all false
set_option maxRecDepth 100000
set_option maxHeartbeats 4000000
namespace G
open PySem L2
abbrev s__law_any_tree : Stmt := top 54
theorem sc__law_any_tree : FnScope ["_law_tin", "_law_net_here", "_law_bond", "_law_marks_so", "_law_found", "_law_near", "_law_far", "_law_own"] ["_law_tin", "_law_net_here"] (defScope s__law_any_tree) := ⟨rfl, rfl, rfl, by decide +kernel, rfl, by decide +kernel, by decide +kernel⟩
abbrev s__law_net : Stmt := top 50
theorem sc__law_net : FnScope ["_law_tin", "_law_most_so", "_law_left_so", "_law_own", "_law_lap", "_law_m", "_law_n", "_law_bonds_so", "_law_hands_so", "_law_tasks_so"] ["_law_tin", "_law_most_so"] (defScope s__law_net) := ⟨rfl, rfl, rfl, by decide +kernel, rfl, by decide +kernel, by decide +kernel⟩
theorem perm_map_ex {α β : Type} (f : α → β) {l m : List β} (p : l.Perm m) : ∀ ts : List α, m = ts.map f → ∃ ps : List α, l = ps.map f ∧ ps.Perm ts := by
  induction p with
  | nil => intro ts h; exact ⟨[], rfl, by rw [List.map_eq_nil_iff.mp h.symm]⟩
  | cons a p ih => intro ts h; cases ts with
    | nil => cases h
    | cons t ts =>
      injection h with h1 h2
      obtain ⟨ps, e, q⟩ := ih ts h2
      exact ⟨t :: ps, by rw [List.map_cons, ← e, h1], q.cons t⟩
  | swap a b l => intro ts h; cases ts with
    | nil => cases h
    | cons t ts => cases ts with
      | nil => injection h with _ h; cases h
      | cons u ts =>
        injection h with h1 h2
        injection h2 with h2 h3
        exact ⟨u :: t :: ts, by rw [List.map_cons, List.map_cons, h1, h2, h3], .swap _ _ _⟩
  | trans p q ih1 ih2 => intro ts h
                         obtain ⟨ps, e, r⟩ := ih2 ts h
                         obtain ⟨qs, e2, r2⟩ := ih1 ps e
                         exact ⟨qs, e2, r2.trans r⟩
def trueD (ks : List P2) : List (P2 × D) := ks.map fun k => (k, .bool true)
def addK (ks : List P2) (k : P2) : List P2 := if k ∈ ks then ks else ks ++ [k]
theorem hasD_true (ks : List P2) (p : P2) : hasD (trueD ks) p = decide (p ∈ ks) := by
  unfold hasD trueD
  induction ks with
  | nil => simp
  | cons x f ih =>
    rw [List.map_cons, List.any_cons, ih]
    by_cases h : x = p
    · simp [h]
    · have h' : ¬ p = x := fun z => h z.symm
      simp only [h, decide_false, Bool.false_or, List.mem_cons, h', false_or]
theorem putD_true (ks : List P2) (k : P2) : putD (trueD ks) k (.bool true) = trueD (addK ks k) := by
  unfold putD addK
  rw [hasD_true]
  by_cases h : k ∈ ks
  · rw [if_pos (decide_eq_true h), if_pos h]
    unfold trueD
    rw [List.map_map]
    refine List.map_congr_left fun x _ => ?_
    show (if x = k then (x, PyData.bool true) else (x, .bool true)) = _
    split <;> rfl
  · rw [if_neg (by rw [decide_eq_false h]; exact Bool.false_ne_true), if_neg h]
    unfold trueD
    rw [List.map_append]; rfl
theorem mem_addK {ks : List P2} {k x : P2} : x ∈ addK ks k ↔ x ∈ ks ∨ x = k := by
  unfold addK
  split
  · rename_i h
    constructor
    · exact .inl
    · rintro (z | z)
      · exact z
      · subst z; exact h
  · rw [List.mem_append, List.mem_singleton]
theorem addK_nodup {ks : List P2} {k : P2} (h : ks.Nodup) : (addK ks k).Nodup := by
  unfold addK
  split
  · exact h
  · rename_i hk
    exact List.nodup_append.mpr ⟨h, by simp, fun x hx y hy e => hk (by rw [List.mem_singleton.mp hy] at e; rw [← e]; exact hx)⟩
theorem addK_length {ks : List P2} {k : P2} : (addK ks k).length ≤ ks.length + 1 := by
  unfold addK
  split
  · omega
  · rw [List.length_append]; exact Nat.le_refl _
theorem trueD_length (ks : List P2) : (trueD ks).length = ks.length := List.length_map _
theorem trueD_keys (ks : List P2) : (trueD ks).map (·.1) = ks := by unfold trueD; rw [List.map_map]; exact List.map_id _
structure NI (m n : Int) (ks : List P2) (hs tks : List Int) : Prop where
  nd : ks.Nodup
  r : ∀ k ∈ ks, InR m n k
  h : ∀ x ∈ hs, 0 ≤ x ∧ x < m ∧ Con ks (0, 0) (0, x)
  t : ∀ x ∈ tks, 0 ≤ x ∧ x < n ∧ Con ks (0, 0) (1, x)
  h0 : 0 ∈ hs
  t0 : 0 ∈ tks
theorem NI.start {m n : Int} (hm : 1 ≤ m) (hn : 1 ≤ n) : NI m n [(0, 0)] [0] [0] := by
  refine ⟨by simp, fun k hk => ?_, fun x hx => ?_, fun x hx => ?_, by simp, by simp⟩
  · rw [List.mem_singleton.mp hk]; exact ⟨Int.le_refl _, by dsimp only; omega, Int.le_refl _, by dsimp only; omega⟩
  · rw [List.mem_singleton.mp hx]; exact ⟨Int.le_refl _, by omega, .refl _⟩
  · rw [List.mem_singleton.mp hx]; exact ⟨Int.le_refl _, by omega, .one (t := (0, 0)) (by simp) (.inl ⟨rfl, rfl⟩)⟩
theorem NI.hand {m n : Int} {ks : List P2} {hs tks : List Int} {x y : Int} (h : NI m n ks hs tks) (hx : 0 ≤ x ∧ x < m) (hy : y ∈ tks) : NI m n (addK ks (x, y)) (hs ++ [x]) tks := by
  obtain ⟨y0, y1, cy⟩ := h.t y hy
  have up : ∀ t ∈ ks, t ∈ addK ks (x, y) := fun t ht => mem_addK.mpr (.inl ht)
  refine ⟨addK_nodup h.nd, fun k hk => ?_, fun z hz => ?_, fun z hz => ?_, List.mem_append_left _ h.h0, h.t0⟩
  · rcases mem_addK.mp hk with z | z
    · exact h.r k z
    · rw [z]; exact ⟨hx.1, hx.2, y0, y1⟩
  · rcases List.mem_append.mp hz with q | q
    · exact ⟨(h.h z q).1, (h.h z q).2.1, (h.h z q).2.2.mono up⟩
    · rw [List.mem_singleton.mp q]
      exact ⟨hx.1, hx.2, .snoc (t := (x, y)) (cy.mono up) (mem_addK.mpr (.inr rfl)) (.inr ⟨rfl, rfl⟩)⟩
  · exact ⟨(h.t z hz).1, (h.t z hz).2.1, (h.t z hz).2.2.mono up⟩
theorem NI.task {m n : Int} {ks : List P2} {hs tks : List Int} {x y : Int} (h : NI m n ks hs tks) (hy : 0 ≤ y ∧ y < n) (hx : x ∈ hs) : NI m n (addK ks (x, y)) hs (tks ++ [y]) := by
  obtain ⟨x0, x1, cx⟩ := h.h x hx
  have up : ∀ t ∈ ks, t ∈ addK ks (x, y) := fun t ht => mem_addK.mpr (.inl ht)
  refine ⟨addK_nodup h.nd, fun k hk => ?_, fun z hz => ?_, fun z hz => ?_, h.h0, List.mem_append_left _ h.t0⟩
  · rcases mem_addK.mp hk with z | z
    · exact h.r k z
    · rw [z]; exact ⟨x0, x1, hy.1, hy.2⟩
  · exact ⟨(h.h z hz).1, (h.h z hz).2.1, (h.h z hz).2.2.mono up⟩
  · rcases List.mem_append.mp hz with q | q
    · exact ⟨(h.t z q).1, (h.t z q).2.1, (h.t z q).2.2.mono up⟩
    · rw [List.mem_singleton.mp q]
      exact ⟨hy.1, hy.2, .snoc (t := (x, y)) (cx.mono up) (mem_addK.mpr (.inr rfl)) (.inl ⟨rfl, rfl⟩)⟩
def leftP (m n : Int) : List P2 := (List.range (m - 1).toNat).map (fun (i : Nat) => ((0 : Int), (1 : Int) + i)) ++ (List.range (n - 1).toNat).map fun (i : Nat) => ((1 : Int), (1 : Int) + i)
theorem mem_leftP {m n : Int} {p : P2} : p ∈ leftP m n ↔ (p.1 = 0 ∧ 1 ≤ p.2 ∧ p.2 < m) ∨ (p.1 = 1 ∧ 1 ≤ p.2 ∧ p.2 < n) := by
  unfold leftP
  rw [List.mem_append, List.mem_map, List.mem_map]
  constructor
  · rintro (⟨i, hi, rfl⟩ | ⟨i, hi, rfl⟩)
    · have := List.mem_range.mp hi; exact .inl ⟨rfl, by dsimp only; omega, by dsimp only; omega⟩
    · have := List.mem_range.mp hi; exact .inr ⟨rfl, by dsimp only; omega, by dsimp only; omega⟩
  · obtain ⟨a, b⟩ := p
    rintro (⟨h1, h2, h3⟩ | ⟨h1, h2, h3⟩)
    · dsimp only at h1 h2 h3; exact .inl ⟨(b - 1).toNat, List.mem_range.mpr (by omega), by rw [h1]; exact Prod.ext rfl (by dsimp only; omega)⟩
    · dsimp only at h1 h2 h3; exact .inr ⟨(b - 1).toNat, List.mem_range.mpr (by omega), by rw [h1]; exact Prod.ext rfl (by dsimp only; omega)⟩
theorem leftP_length {m n : Int} : (leftP m n).length = (m - 1).toNat + (n - 1).toNat := by simp [leftP]
/-- all is joined, in range -/
structure NJ (m n : Int) (ks : List P2) : Prop where
  nd : ks.Nodup
  r : ∀ k ∈ ks, InR m n k
  c : ∀ p, PlOk m n p → Con ks (0, 0) p
theorem NJ.add {m n : Int} {ks : List P2} {k : P2} (h : NJ m n ks) (hk : InR m n k) : NJ m n (addK ks k) :=
  ⟨addK_nodup h.nd, fun x hx => by
    rcases mem_addK.mp hx with z | z
    · exact h.r x z
    · rw [z]; exact hk, fun p hp => (h.c p hp).mono fun t ht => mem_addK.mpr (.inl ht)⟩
theorem NJ.okw {m n : Int} {ks : List P2} (h : NJ m n ks) (hm : 1 ≤ m) (hn : 1 ≤ n) (hmn : m + n < 64) (hz : ks.length ≤ 1000) : OkW m n (sortP ks) := by
  have r : ∀ t ∈ sortP ks, InR m n t := fun t ht => h.r t (mem_sortP.mp ht)
  have c : AllCon m n (sortP ks) := fun p q a b => ((h.c p a).symm.trans (h.c q b)).mono fun t ht => mem_sortP.mpr ht
  exact ⟨hm, hn, hmn, r, sortP_slt h.nd, con_len hm (by omega) r c, by rw [sortP_length]; exact hz, (hangs_iff hm (by omega) r).mpr c⟩
section
variable {P : Program} {w : World} {K : PySem.W.Frag} {mg : Str → Option Value} {base : Heap} (B0 : Bi mg)
include B0
theorem x_pick {B : Bs} {Γ : List En} {tA : TA} {n i : Nat} {E : XK} {es : List D} {R : List En → D → Prop} (ht : Γ[i]? = some (.m (.tin n))) (h : EvD B tA Γ [.list es, .int es.length]) (hz : es.length < 64) (hc : n + 64 ≤ 2 ^ 40) (r : ∀ fs : List D, fs.Perm es → R (Γ.set i (.m (.tin (n + 64)))) (.list fs)) :
    EvXd B (tCall sp__law_pick [] E (tCons (tVar i) tA)) Γ R := xd_callT ht h ⟨es, rfl, hz⟩ hc fun d ⟨es', fs, e1, e2, h1⟩ => by
  injection e1 with e1 _
  injection e1 with e1
  subst e1 e2
  exact r fs h1
theorem x_of {B : Bs} {Γ : List En} {tA : TA} {n i : Nat} {E : XK} {es : List D} {R : List En → D → Prop} (ht : Γ[i]? = some (.m (.tin n))) (h : EvD B tA Γ [.list es]) (h0 : es ≠ []) (hz : es.length < 1000) (hc : n + 1 ≤ 2 ^ 40) (r : ∀ d ∈ es, R (Γ.set i (.m (.tin (n + 1)))) d) :
    EvXd B (tCall sp__law_of [] E (tCons (tVar i) tA)) Γ R := xd_callT ht h ⟨es, rfl, h0, hz⟩ hc fun d ⟨es', e1, h1⟩ => by
  injection e1 with e1 _
  injection e1 with e1
  subst e1
  exact r d h1
theorem x_of1 {B : Bs} {Γ : List En} {n i j : Nat} {E : XK} {zs : List Int} {R : List En → D → Prop} (ht : Γ[i]? = some (.m (.tin n))) (hj : Γ[j]? = some (.m (.l (zs.map PyData.int)))) (hij : i ≠ j) (h0 : zs ≠ []) (hz : zs.length < 1000) (hc : n + 1 ≤ 2 ^ 40) (r : ∀ z ∈ zs, R (Γ.set i (.m (.tin (n + 1)))) (.int z)) :
    EvXd B (tCall sp__law_of [] E (tCons (tVar i) (tCons (tVar j) tNil))) Γ R := by
  have inv : ∀ d : D, (∃ es' : List D, [PyData.list (zs.map PyData.int)] = [.list es'] ∧ d ∈ es') → ∃ z ∈ zs, d = .int z := fun d ⟨es', e1, h1⟩ => by
    injection e1 with e1 _
    injection e1 with e1
    subst e1
    obtain ⟨z, hz, e⟩ := List.mem_map.mp h1
    exact ⟨z, hz, e.symm⟩
  refine xd_callT1 ht hj hij ⟨_, rfl, fun z => h0 (List.map_eq_nil_iff.mp z), by rw [List.length_map]; exact hz⟩ hc (fun d h => ?_) fun d h => ?_
  · obtain ⟨z, _, e⟩ := inv d h; exact ⟨z, e⟩
  · obtain ⟨z, hz, e⟩ := inv d h; subst e; exact r z hz
abbrev sp__law_any_tree : Sp := spT 64 (fun ds => ∃ x : Int × Int × List P2, ds = [dN x.1 x.2.1 x.2.2] ∧ OkW x.1 x.2.1 x.2.2 ∧ x.2.2.length < 64) fun ds d => ∃ (x : Int × Int × List P2) (us : List P2), ds = [dN x.1 x.2.1 x.2.2] ∧ d = dT us ∧ OkT x.1 x.2.1 x.2.2 us
theorem ok__law_any_tree (c__law_pick : Cal P w K mg base CX0 2 "_law_pick" s__law_pick ["_law_tin", "_law_goods_so", "_law_count_so"] sp__law_pick) (d : Dfx K mg "_law_any_tree" s__law_any_tree ["_law_tin", "_law_net_here"]) : Cal P w K mg base CX0 3 "_law_any_tree" s__law_any_tree ["_law_tin", "_law_net_here"] sp__law_any_tree := d.cal fun f fd F => by
  refine fnT F sc__law_any_tree (fun ds h => by obtain ⟨_, rfl, _⟩ := h; rfl) (by decide) fun cdv A outer s H E hr => ?_
  have hu64 := hr.units
  have hu65 := hu65_of hr
  have hu := hu_of hr
  have hu0 := hr.units0
  obtain ⟨f__law_pick, fd__law_pick, F__law_pick, m__law_pick, b__law_pick, ok__law_pick⟩ := c__law_pick
  have nd := sc__law_any_tree.nd
  refine ⟨_, (pss_cons (ps_par (i := 3) (j := 4) rfl nd rfl rfl (by decide) rfl rfl (pa_cons (pe_listRg rfl rfl B0.list (prg_1 rfl B0.range (pe_op op_add (pe_ix (k_ixT K rfl) (pv 1) pe_int (fun _ _ => rfl)) (pe_ix (k_ixT K rfl) (pv 1) pe_int (fun _ _ => rfl))))) (pa_cons (pe_lst pa_nil) pa_nil)) rfl)
    (pss_cons (ps_for PassesOwn.never rfl (k_iL K rfl (pe_call ok__law_pick (hr.mono (by decide)) rfl m__law_pick F__law_pick.kp b__law_pick .nil pass0 (pa_cons (pv 0) (pa_cons (pe_callTy (k_list K rfl) rfl B0.list (by decide +kernel) (pa_cons (pe_ix (k_ixT K rfl) (pv 1) pe_int (fun _ _ => rfl)) pa_nil)) (pa_cons (pe_callB (k_len K rfl) rfl B0.len (by decide +kernel) (pa_cons (pe_ix (k_ixT K rfl) (pv 1) pe_int (fun _ _ => rfl)) pa_nil)) pa_nil))))) (pg_name (i := 2) nd rfl (by first | exact Or.inl rfl | exact Or.inr rfl)) (pss_cons (ps_asg (pe_tup (pa_cons (pe_ix (k_ixL K rfl) (pv 3) (pe_ix (k_ixT K rfl) (pv 2) pe_int (fun _ _ => rfl)) (fun _ _ => rfl)) (pa_cons (pe_ix (k_ixL K rfl) (pv 3) (pe_op op_add (pe_ix (k_ixT K rfl) (pv 1) pe_int (fun _ _ => rfl)) (pe_ix (k_ixT K rfl) (pv 2) pe_int (fun _ _ => rfl))) (fun _ _ => rfl)) pa_nil))) (k_tup (n := 2) K rfl rfl (pgs_cons (pg_name (i := 5) nd rfl (by first | exact Or.inl rfl | exact Or.inr rfl)) (pgs_cons (pg_name (i := 6) nd rfl (by first | exact Or.inl rfl | exact Or.inr rfl)) pgs_nil))))
    (pss_one (ps_if (pt_cmpR (k_neD K rfl hu64) (pv 5) (pv 6) (nomark _)) (pss_cons (ps_expr (pe_bm PySem.F.plainAttrs_list PySem.F.slot_list_append PySem.F.type_list_append mt_append (pv 4) (pa_cons (pv 2) pa_nil)))
    (pss_one (ps_setLc (i := 3) (own := [("_law_own", 7)]) rfl nd rfl rfl (sw_true rfl rfl rfl (by decide +kernel)) (k_iL K rfl (pv 3)) (blkOk_by (N := ["_law_tin", "_law_net_here", "_law_bond", "_law_marks_so", "_law_found", "_law_near", "_law_far", "_law_own"]) (sc := defScope s__law_any_tree) (own := [("_law_own", 7)]) (by decide +kernel)) (fun _ _ _ _ _ => (pg_name (i := 7) nd rfl (by first | exact Or.inl rfl | exact Or.inr rfl))) (fun _ _ _ _ _ => pts_nil) (fun _ _ _ _ _ => (pe_ifExp (pt_cmpR (k_eqD K rfl hu64) (pv 7) (pv 6) (nomark _)) (pv 5) (pv 7)))))) pss_nil))))
    (pss_one (ps_ret (pe_callTy (k_tuple K rfl) rfl B0.tuple (by decide +kernel) (pa_cons (pe_callB (cr_sortT (d := 2) (B := 64) (by decide)) rfl B0.sorted (by decide +kernel) (pa_cons (pv 4) pa_nil)) pa_nil)))))), ?_⟩
  rintro B ds n0 _ ⟨⟨m, n, ts⟩, rfl, hw, hz⟩ hn0
  dsimp only at hw hz
  have m1 := hw.m1
  have n1 := hw.n1
  have mn := hw.mn
  refine ht_seq (ht_par (ea_cons ((ev_listRg (ev_op (ev_op (ev_var rfl) ev_int ix0) (ev_op (ev_var rfl) ev_int ix1) ro_II) (by dsimp only; omega) (by dsimp only; omega)).is (congrArg En.d (rgD_rgI B0 (m + n).toNat))) (ea_cons (ev_lstM (ds := []) ea_nil) ea_nil)) ?_)
  refine ht_seq (ht_forX (P := fun Γ' ds => ∃ ps : List P2, ps.Perm ts ∧ ds = ps.map dP ∧ Γ' = [.m (.tin (n0 + 64)), .d (dN m n ts), .un, .d (dI (rgI (m + n).toNat)), .m (.l []), .un, .un, .un]) (xi_list (x_pick B0 (es := ts.map dP) rfl (ed_cons (ev_cbD (ed_cons (ev_op (ev_var rfl) ev_int ix2) ed_nil) rc_listT) (ed_cons (ev_cbD (ed_cons (ev_op (ev_var rfl) ev_int ix2) ed_nil) rc_lenT) ed_nil)) (by rw [List.length_map]; exact hz) hn0 fun fs hp => ?_)) ?_)
  · obtain ⟨ps, e, q⟩ := perm_map_ex dP hp ts rfl
    exact ⟨fs, rfl, ps, q, e, rfl⟩
  · rintro Γ' ds ⟨ps, hp, rfl, rfl⟩
    have rp : ∀ t ∈ ps, InR m n t := fun t ht => hw.r t (hp.mem_iff.mp ht)
    refine ⟨fun i Γ => ∃ e2 e5 e6 s, Γ = [.m (.tin (n0 + 64)), .d (dN m n ts), e2, .d (dI s.1), .m (.l (s.2.map dP)), e5, e6, .un] ∧ Kr m n (ps.take i) s, ⟨_, _, _, (rgI (m + n).toNat, []), rfl, Kr.start⟩, ?_, ?_⟩
    · rintro i x Γ hx ⟨e2, e5, e6, s, rfl, kr⟩
      rw [List.getElem?_map] at hx
      obtain ⟨t, ht, rfl⟩ := Option.map_eq_some_iff.mp hx
      have r := rp t (List.mem_of_getElem? ht)
      have e : ps.take (i + 1) = ps.take i ++ [t] := by rw [List.take_add_one, ht]; rfl
      have kr' := kr.step (by omega) (by omega) r
      have hl : s.1.length = (m + n).toNat := by rw [kr.a, grownM_length, rgI_length]
      have hF : s.2.length < 64 := by have := kr.c; omega
      rw [← e] at kr'
      obtain ⟨r1, r2, r3, r4⟩ := r
      have hz1 : t.1.toNat < s.1.length := by omega
      have hz2 : (m + t.2).toNat < s.1.length := by omega
      refine ⟨_, _, eg_name, ?_⟩
      refine ht_seq (ht_asg (ev_tupD (ds := [.int (s.1.getD t.1.toNat 0), .int (s.1.getD (m + t.2).toNat 0)]) (ed_cons (ev_op (ev_var rfl) (ev_op (ev_var rfl) ev_int ix0) (ro_ixL (z := t.1) r1 (ints_get hz1))) (ed_cons (ev_op (ev_var rfl) (ev_op (ev_op (ev_var rfl) ev_int ix0) (ev_op (ev_var rfl) ev_int ix1) ro_II) (ro_ixL (z := m + t.2) (by omega) (ints_get hz2))) ed_nil)) (by show 2 ≤ 100000; decide)) eg_tup2 ?_)
      refine ht_if (b := !decide (s.1.getD t.1.toNat 0 = s.1.getD (m + t.2).toNat 0)) (eb_test ((ev_op (ev_var rfl) (ev_var rfl) (ro_neD (shaped_int _) (shaped_int _))).is (by rw [eqv_int]))) (fun hb => ?_) fun hb => ?_
      · have hb : ¬ s.1.getD t.1.toNat 0 = s.1.getD (m + t.2).toNat 0 := of_decide_eq_false (by rw [Bool.not_eq_true'] at hb; exact hb)
        have ek : krT m s t = (s.1.map fun o => if o = s.1.getD (m + t.2).toNat 0 then s.1.getD t.1.toNat 0 else o, s.2 ++ [t]) := by
          unfold krT markedM
          dsimp only
          rw [if_neg hb, if_neg hb]
        rw [ek] at kr'
        refine ht_seq (ht_app rfl (ev_var rfl) (by rw [List.length_map]; omega) ?_)
        refine ht_set' (e := .d (dI (s.1.map fun o => if o = s.1.getD (m + t.2).toNat 0 then s.1.getD t.1.toNat 0 else o))) (ev_lcM (xs := s.1) (c := PyData.int) (fun o => PyData.int (if o = s.1.getD (m + t.2).toNat 0 then s.1.getD t.1.toNat 0 else o)) (ei_list (ev_var rfl)) (hv1 rfl) hj1 (by omega) fun a ha => ⟨_, eg_name, ev_if (b := decide (a = s.1.getD (m + t.2).toNat 0)) (eb_test ((ev_op (ev_var rfl) (ev_var rfl) (ro_eqD (shaped_int _) (shaped_int _))).is (by rw [eqv_int]))) (fun hb => ?_) fun hb => ?_⟩) ?_ ⟨.d (dP t), .d (.int (s.1.getD t.1.toNat 0)), .d (.int (s.1.getD (m + t.2).toNat 0)), _, ?_, kr'⟩
        · rw [if_pos (of_decide_eq_true hb)]; exact ev_var rfl
        · rw [if_neg (of_decide_eq_false hb)]; exact ev_var rfl
        · show En.d (.list _) = En.d (.list _)
          rw [List.map_map]; rfl
        · rw [List.map_append]; rfl
      · have hb : s.1.getD t.1.toNat 0 = s.1.getD (m + t.2).toNat 0 := of_decide_eq_true (by rw [Bool.not_eq_false'] at hb; exact hb)
        have ek : krT m s t = (s.1, s.2) := by
          unfold krT markedM
          dsimp only
          rw [if_pos hb, if_pos hb]
        rw [ek] at kr'
        exact ht_next ⟨_, _, _, _, rfl, kr'⟩
    · rintro Γ ⟨e2, e5, e6, s, rfl, kr⟩
      rw [List.length_map, List.take_length] at kr
      have ok := kr.fin hw hp
      have hF : s.2.length < 64 := by have := kr.c; omega
      refine ht_frz (i := 4) rfl (ht_ret (ev_cbD (ed_cons (ev_sortedL (ev_var rfl) hF fun p hp' => ?_) ed_nil) rc_tupL) ⟨_, n0 + 64, rfl, ⟨(m, n, ts), sortP s.2, rfl, rfl, ok⟩, rfl, Nat.le_refl _⟩)
      have r := rp p (kr.d.subset hp')
      unfold BdP
      omega
theorem x_1take {B : Bs} {Γ : List En} {tA : TA} {n i : Nat} {E : XK} {b : Int} {R : List En → D → Prop} (ht : Γ[i]? = some (.m (.tin n))) (h : EvD B tA Γ [.int b]) (hb0 : 0 < b) (hb1 : b < 1000) (hc : n + 1 ≤ 2 ^ 40) (r : ∀ z : Int, 1 ≤ z → z ≤ b → R (Γ.set i (.m (.tin (n + 1)))) (.int z)) :
    EvXd B (tOp (rI0 fun i j => V.int (i + j)) (tC (.int 1)) (tCall sp__law_take [] E (tCons (tVar i) tA))) Γ R :=
  xd_op (xd_of ev_int (R := fun Γ1 d => Γ1 = Γ ∧ d = .int 1) ⟨rfl, rfl⟩) fun Γ1 a ⟨e1, e2⟩ => by
    subst e1 e2
    exact x_take B0 ht h hb0 hb1 hc fun z h0 h1 => ⟨_, ro_II, r _ (by omega) (by omega)⟩
/-- the entries of _law_net, from the numbers on -/
abbrev netE (c : Nat) (e2 e3 e4 : En) (m n : Int) (e7 e8 e9 : En) : List En := [.m (.tin c), .d (.int 5), e2, e3, e4, .d (.int m), .d (.int n), e7, e8, e9]
abbrev sp__law_net : Sp := spT 200 (fun ds => ∃ x : Int, ds = [.int x] ∧ x = 5) fun ds d => ∃ (m n : Int) (ts : List P2), d = dN m n ts ∧ OkW m n ts ∧ m ≤ 5 ∧ n ≤ 5 ∧ ts.length < 60
theorem ok__law_net (c__law_take : Cal P w K mg base CX0 1 "_law_take" s__law_take ["_law_tin", "_law_below_so"] sp__law_take) (c__law_pick : Cal P w K mg base CX0 2 "_law_pick" s__law_pick ["_law_tin", "_law_goods_so", "_law_count_so"] sp__law_pick) (c__law_of : Cal P w K mg base CX0 2 "_law_of" s__law_of ["_law_tin", "_law_goods_so"] sp__law_of) (d : Dfx K mg "_law_net" s__law_net ["_law_tin", "_law_most_so"]) : Cal P w K mg base CX0 3 "_law_net" s__law_net ["_law_tin", "_law_most_so"] sp__law_net := d.cal fun f fd F => by
  refine fnT F sc__law_net (fun ds h => by obtain ⟨_, rfl, _⟩ := h; rfl) (by decide) fun cdv A outer s H E hr => ?_
  have hu64 := hr.units
  have hu65 := hu65_of hr
  have hu := hu_of hr
  have hu0 := hr.units0
  obtain ⟨f__law_take, fd__law_take, F__law_take, m__law_take, b__law_take, ok__law_take⟩ := c__law_take
  obtain ⟨f__law_pick, fd__law_pick, F__law_pick, m__law_pick, b__law_pick, ok__law_pick⟩ := c__law_pick
  obtain ⟨f__law_of, fd__law_of, F__law_of, m__law_of, b__law_of, ok__law_of⟩ := c__law_of
  have nd := sc__law_net.nd
  refine ⟨_, (pss_cons (ps_par (i := 5) (j := 6) rfl nd rfl rfl (by decide) rfl rfl (pa_cons (pe_op op_add pe_int (pe_call ok__law_take (hr.mono (by decide)) rfl m__law_take F__law_take.kp b__law_take .nil pass0 (pa_cons (pv 0) (pa_cons (pv 1) pa_nil)))) (pa_cons (pe_op op_add pe_int (pe_call ok__law_take (hr.mono (by decide)) rfl m__law_take F__law_take.kp b__law_take .nil pass0 (pa_cons (pv 0) (pa_cons (pv 1) pa_nil)))) pa_nil)) rfl)
    (pss_cons (ps_if (pt_cmpR op_gt (pe_call ok__law_take (hr.mono (by decide)) rfl m__law_take F__law_take.kp b__law_take .nil pass0 (pa_cons (pv 0) (pa_cons pe_int pa_nil))) pe_int (nomark _)) (pss_one (ps_par (i := 5) (j := 6) rfl nd rfl rfl (by decide) rfl rfl (pa_cons (pe_op op_add pe_int (pe_op op_mod (pe_callTy call_int1 rfl B0.int (by decide +kernel) (pa_cons (pv 5) pa_nil)) (pe_callB (call_max2 rfl) rfl B0.max (by decide +kernel) (pa_cons pe_int (pa_cons (pe_op op_sub (pv 1) pe_int) pa_nil))))) (pa_cons (pe_op op_add pe_int (pe_op op_mod (pe_callTy call_int1 rfl B0.int (by decide +kernel) (pa_cons (pv 6) pa_nil)) (pe_callB (call_max2 rfl) rfl B0.max (by decide +kernel) (pa_cons pe_int (pa_cons (pe_op op_sub (pv 1) pe_int) pa_nil))))) pa_nil)) rfl)) pss_nil)
    (pss_cons (ps_par3 (i := 7) (j := 8) (l := 9) rfl nd rfl rfl rfl (by decide) (by decide) (by decide) rfl rfl rfl (pa_cons (pe_disp1T hu (pe_tup (pa_cons pe_int (pa_cons pe_int pa_nil))) pe_bl) (pa_cons (pe_lst (pa_cons pe_int pa_nil)) (pa_cons (pe_lst (pa_cons pe_int pa_nil)) pa_nil))) rfl)
    (pss_cons (ps_set (i := 2) nd rfl (Or.inl rfl) (pe_op op_cat (pe_lc (own := [("_law_own", 3)]) rfl nd (pi_range2 rfl B0.range (pa_cons pe_int (pa_cons (pv 5) pa_nil))) (blkOk_by (N := ["_law_tin", "_law_most_so", "_law_left_so", "_law_own", "_law_lap", "_law_m", "_law_n", "_law_bonds_so", "_law_hands_so", "_law_tasks_so"]) (sc := defScope s__law_net) (own := [("_law_own", 3)]) (by decide +kernel)) (fun _ _ _ _ _ => (pg_name (i := 3) nd rfl (by first | exact Or.inl rfl | exact Or.inr rfl))) (fun _ _ _ _ _ => pts_nil) (fun _ _ _ _ _ => (pe_tup (pa_cons pe_int (pa_cons (pv 3) pa_nil))))) (pe_lc (own := [("_law_own", 3)]) rfl nd (pi_range2 rfl B0.range (pa_cons pe_int (pa_cons (pv 6) pa_nil))) (blkOk_by (N := ["_law_tin", "_law_most_so", "_law_left_so", "_law_own", "_law_lap", "_law_m", "_law_n", "_law_bonds_so", "_law_hands_so", "_law_tasks_so"]) (sc := defScope s__law_net) (own := [("_law_own", 3)]) (by decide +kernel)) (fun _ _ _ _ _ => (pg_name (i := 3) nd rfl (by first | exact Or.inl rfl | exact Or.inr rfl))) (fun _ _ _ _ _ => pts_nil) (fun _ _ _ _ _ => (pe_tup (pa_cons pe_int (pa_cons (pv 3) pa_nil)))))))
    (pss_cons (ps_for PassesOwn.never rfl (k_iL K rfl (pe_call ok__law_pick (hr.mono (by decide)) rfl m__law_pick F__law_pick.kp b__law_pick .nil pass0 (pa_cons (pv 0) (pa_cons (pv 2) (pa_cons (pe_callB (k_len K rfl) rfl B0.len (by decide +kernel) (pa_cons (pv 2) pa_nil)) pa_nil))))) (pg_name (i := 3) nd rfl (by first | exact Or.inl rfl | exact Or.inr rfl)) (pss_one (ps_if (pt_cmpR (k_eqD K rfl hu64) (pe_ix (k_ixT K rfl) (pv 3) pe_int (fun _ _ => rfl)) pe_int (nomark _)) (pss_cons (ps_dput hu (pv 7) (pe_tup (pa_cons (pe_ix (k_ixT K rfl) (pv 3) pe_int (fun _ _ => rfl)) (pa_cons (pe_call ok__law_of (hr.mono (by decide)) rfl m__law_of F__law_of.kp b__law_of .nil pass0 (pa_cons (pv 0) (pa_cons (pv 9) pa_nil))) pa_nil))) pe_bl rfl)
    (pss_one (ps_expr (pe_bm PySem.F.plainAttrs_list PySem.F.slot_list_append PySem.F.type_list_append mt_append (pv 8) (pa_cons (pe_ix (k_ixT K rfl) (pv 3) pe_int (fun _ _ => rfl)) pa_nil))))) (pss_cons (ps_dput hu (pv 7) (pe_tup (pa_cons (pe_call ok__law_of (hr.mono (by decide)) rfl m__law_of F__law_of.kp b__law_of .nil pass0 (pa_cons (pv 0) (pa_cons (pv 8) pa_nil))) (pa_cons (pe_ix (k_ixT K rfl) (pv 3) pe_int (fun _ _ => rfl)) pa_nil))) pe_bl rfl)
    (pss_one (ps_expr (pe_bm PySem.F.plainAttrs_list PySem.F.slot_list_append PySem.F.type_list_append mt_append (pv 9) (pa_cons (pe_ix (k_ixT K rfl) (pv 3) pe_int (fun _ _ => rfl)) pa_nil))))))))
    (pss_cons (ps_for PassesOwn.never rfl (pi_range1 rfl B0.range (pa_cons (pe_call ok__law_take (hr.mono (by decide)) rfl m__law_take F__law_take.kp b__law_take .nil pass0 (pa_cons (pv 0) (pa_cons (pe_op op_add (pe_op op_mul (pv 5) (pv 6)) pe_int) pa_nil))) pa_nil)) (pg_name (i := 4) nd rfl (by first | exact Or.inl rfl | exact Or.inr rfl)) (pss_one (ps_dput hu (pv 7) (pe_tup (pa_cons (pe_call ok__law_take (hr.mono (by decide)) rfl m__law_take F__law_take.kp b__law_take .nil pass0 (pa_cons (pv 0) (pa_cons (pv 5) pa_nil))) (pa_cons (pe_call ok__law_take (hr.mono (by decide)) rfl m__law_take F__law_take.kp b__law_take .nil pass0 (pa_cons (pv 0) (pa_cons (pv 6) pa_nil))) pa_nil))) pe_bl rfl)))
    (pss_one (ps_ret (pe_tup (pa_cons (pv 5) (pa_cons (pv 6) (pa_cons (pe_callTy (k_tuple K rfl) rfl B0.tuple (by decide +kernel) (pa_cons (pe_callB (cr_sortedDT (n := 2) (B := 64) (by decide) rfl) rfl B0.sorted (by decide +kernel) (pa_cons (pv 7) pa_nil)) pa_nil)) pa_nil)))))))))))), ?_⟩
  rintro B ds n0 _ ⟨x, rfl, rfl⟩ hn0
  refine ht_seq (ht_parD (xa_cons (R1 := fun Γ1 d => ∃ z : Int, 1 ≤ z ∧ z ≤ 5 ∧ d = .int z ∧ Γ1 = [.m (.tin (n0 + 1)), .d (.int 5), .un, .un, .un, .un, .un, .un, .un, .un]) (x_1take B0 rfl (ed_cons (ev_var rfl) ed_nil) (by decide) (by decide) (by omega) fun z h0 h1 => ⟨z, h0, h1, rfl, rfl⟩) fun Γ1 d ⟨z1, a0, a1, e1, e2⟩ => ?_))
  subst e1 e2
  refine xa_cons (R1 := fun Γ1 d => ∃ z : Int, 1 ≤ z ∧ z ≤ 5 ∧ d = .int z ∧ Γ1 = [.m (.tin (n0 + 2)), .d (.int 5), .un, .un, .un, .un, .un, .un, .un, .un]) (x_1take B0 rfl (ed_cons (ev_var rfl) ed_nil) (by decide) (by decide) (by omega) fun z h0 h1 => ⟨z, h0, h1, rfl, rfl⟩) fun Γ1 d ⟨z2, b0, b1, e1, e2⟩ => ?_
  subst e1 e2
  refine xa_nil ⟨.int z1, .int z2, rfl, ?_⟩
  have e4 : ∀ {Γ : List En} {te : TE}, EvE B te Γ (.d (.int 5)) → EvE B (tCB (fun xs H Q => ∃ i j, xs = [V.int i, V.int j] ∧ Q (V.int (if j > i then j else i)) H) (tCons (tC (.int 1)) (tCons (tOp (rI0 fun i j => V.int (i - j)) te (tC (.int 1))) tNil))) Γ (.d (.int 4)) := fun h => (ev_cbD (ed_cons ev_int (ed_cons (ev_op h ev_int ro_II) ed_nil)) rc_max).is rfl
  refine ht_seq (ht_imp (N' := fun Γ => ∃ m n : Int, 1 ≤ m ∧ m ≤ 5 ∧ 1 ≤ n ∧ n ≤ 5 ∧ Γ = netE (n0 + 3) .un .un .un m n .un .un .un) (ht_ifX (R := fun Γ' _ => Γ' = netE (n0 + 3) .un .un .un z1 z2 .un .un .un) (xd_boolT (xd_op (R1 := fun Γ1 d => (∃ z : Int, d = .int z) ∧ Γ1 = netE (n0 + 3) .un .un .un z1 z2 .un .un .un) (x_take B0 rfl (ed_cons ev_int ed_nil) (by decide) (by decide) (by omega) fun z h0 h1 => ⟨⟨z, rfl⟩, rfl⟩) fun Γ1 a ⟨⟨z, ez⟩, e1⟩ => by
    subst ez e1
    exact xd_of ev_int ⟨_, ro_IB, _, rfl, rfl⟩)) (fun Γ' e => ?_) fun Γ' e => ?_) ?_)
  · subst e
    have k1 := mod_bd (a := z1) (b := 4) (by decide)
    have k2 := mod_bd (a := z2) (b := 4) (by decide)
    exact ht_par (ea_cons (ev_op ev_int (ev_op (ev_cbD (ed_cons (ev_var rfl) ed_nil) rc_int) (e4 (ev_var rfl)) (ro_IC (by decide))) ro_II) (ea_cons (ev_op ev_int (ev_op (ev_cbD (ed_cons (ev_var rfl) ed_nil) rc_int) (e4 (ev_var rfl)) (ro_IC (by decide))) ro_II) ea_nil)) ⟨2 + z1 % 4, 2 + z2 % 4, by omega, by omega, by omega, by omega, rfl⟩
  · subst e
    exact ht_next ⟨z1, z2, a0, a1, b0, b1, rfl⟩
  rintro Γ ⟨m, n, m1, m5, n1, n5, rfl⟩
  refine ht_seq (ht_par3 (ea_cons (ev_disp (k := (0, 0)) ev_pr ev_bl) (ea_cons (ev_lstM (ds := [.int 0]) (ea_cons ev_int ea_nil)) (ea_cons (ev_lstM (ds := [.int 0]) (ea_cons ev_int ea_nil)) ea_nil))) ?_)
  have eL : PyData.list ((List.range (m - 1).toNat).map (fun (i : Nat) => dP ((0 : Int), (1 : Int) + i)) ++ (List.range (n - 1).toNat).map fun (i : Nat) => dP ((1 : Int), (1 : Int) + i)) = dL (leftP m n) := by
    show _ = PyData.list _
    unfold leftP
    rw [List.map_append, List.map_map, List.map_map]; rfl
  refine ht_seq (ht_set' (e := .d (dL (leftP m n))) (ev_op (ev_lcM (xs := List.range (m - 1).toNat) (c := fun (i : Nat) => PyData.int ((1 : Int) + i)) (fun (i : Nat) => dP ((0 : Int), (1 : Int) + i)) (ei_rng2 (lo := 1) (n := m) (ed_cons ev_int (ed_cons (ev_var rfl) ed_nil)) (by decide) (by decide) (by omega) (by omega)) (hv1 rfl) hj1 (by rw [List.length_range]; omega) fun i _ => ⟨_, eg_name, ev_tupD (ds := [.int 0, .int (1 + i)]) (ed_cons ev_int (ed_cons (ev_var rfl) ed_nil)) (by show 2 ≤ 100000; decide)⟩)
    (ev_lcM (xs := List.range (n - 1).toNat) (c := fun (i : Nat) => PyData.int ((1 : Int) + i)) (fun (i : Nat) => dP ((1 : Int), (1 : Int) + i)) (ei_rng2 (lo := 1) (n := n) (ed_cons ev_int (ed_cons (ev_var rfl) ed_nil)) (by decide) (by decide) (by omega) (by omega)) (hv1 rfl) hj1 (by rw [List.length_range]; omega) fun i _ => ⟨_, eg_name, ev_tupD (ds := [.int 1, .int (1 + i)]) (ed_cons ev_int (ed_cons (ev_var rfl) ed_nil)) (by show 2 ≤ 100000; decide)⟩) (ro_cat (by simp; omega))) (congrArg En.d eL) ?_)
  have ll := leftP_length (m := m) (n := n)
  refine ht_seq (ht_imp (N' := fun Γ => ∃ (c : Nat) (ks : List P2) (hs tks : List Int) (e3 : En), c ≤ n0 + 80 ∧ Γ = netE c (.d (dL (leftP m n))) e3 .un m n (.m (.t (trueD ks))) (.m (.l (hs.map PyData.int))) (.m (.l (tks.map PyData.int))) ∧ NJ m n ks ∧ ks.length ≤ 9)
    (ht_forX (P := fun Γ' ds => ∃ ps : List P2, ps.Perm (leftP m n) ∧ ds = ps.map dP ∧ Γ' = netE (n0 + 3 + 64) (.d (dL (leftP m n))) .un .un m n (.m (.t (trueD [(0, 0)]))) (.m (.l [.int 0])) (.m (.l [.int 0]))) (xi_list (x_pick B0 (es := (leftP m n).map dP) rfl (ed_cons (ev_var rfl) (ed_cons (ev_cbD (ed_cons (ev_var rfl) ed_nil) rc_lenL) ed_nil)) (by rw [List.length_map]; omega) (by omega) fun fs hp => ?_)) ?_) ?_)
  · obtain ⟨ps, e, q⟩ := perm_map_ex dP hp (leftP m n) rfl
    exact ⟨fs, rfl, ps, q, e, rfl⟩
  · rintro Γ' ds ⟨ps, hp, rfl, rfl⟩
    have pl : ps.length ≤ 8 := by rw [hp.length_eq]; omega
    refine ⟨fun i Γ => ∃ (c : Nat) (ks : List P2) (hs tks : List Int) (e3 : En), c ≤ n0 + 3 + 64 + i ∧ Γ = netE c (.d (dL (leftP m n))) e3 .un m n (.m (.t (trueD ks))) (.m (.l (hs.map PyData.int))) (.m (.l (tks.map PyData.int))) ∧ NI m n ks hs tks ∧ ks.length ≤ 1 + i ∧ hs.length ≤ 1 + i ∧ tks.length ≤ 1 + i ∧ i ≤ 8 ∧ ∀ p ∈ ps.take i, (p.1 = 0 → p.2 ∈ hs) ∧ (p.1 = 1 → p.2 ∈ tks), ⟨_, [(0, 0)], [0], [0], _, Nat.le_refl _, rfl, NI.start m1 n1, Nat.le_refl _, Nat.le_refl _, Nat.le_refl _, Nat.zero_le _, fun p hp => by cases hp⟩, ?_, ?_⟩
    · rintro i x Γ hx ⟨c, ks, hs, tks, e3, hc, rfl, ni, l1, l2, l3, hi, hd⟩
      rw [List.getElem?_map] at hx
      obtain ⟨own, ho, rfl⟩ := Option.map_eq_some_iff.mp hx
      have hom := hp.mem_iff.mp (List.mem_of_getElem? ho)
      have hi' : i < ps.length := (List.getElem?_eq_some_iff.mp ho).1
      have e : ps.take (i + 1) = ps.take i ++ [own] := by rw [List.take_add_one, ho]; rfl
      refine ⟨_, _, eg_name, ht_if (b := decide (own.1 = 0)) (eb_test ((ev_op (ev_op (ev_var rfl) ev_int ix0) ev_int (ro_eqD (shaped_int _) (shaped_int _))).is (by rw [eqv_int]))) (fun hb => ?_) fun hb => ?_⟩
      · have hb : own.1 = 0 := of_decide_eq_true hb
        have hr : 1 ≤ own.2 ∧ own.2 < m := by rcases mem_leftP.mp hom with z | z <;> omega
        refine ht_seq (ht_dputX (kvs0 := trueD ks) rfl ev_bl (xd_tup (xa_cons (xd_of (ev_op (ev_var rfl) ev_int ix1) (R := fun Γ1 d => Γ1 = netE c (.d (dL (leftP m n))) (.d (dP own)) .un m n (.m (.t (trueD ks))) (.m (.l (hs.map PyData.int))) (.m (.l (tks.map PyData.int))) ∧ d = .int own.2) ⟨rfl, rfl⟩) fun Γ1 d ⟨q1, q2⟩ => ?_)))
        subst q1 q2
        refine xa_cons (x_of1 B0 (zs := tks) rfl rfl (by decide) (fun z => by have := ni.t0; rw [z] at this; cases this) (by omega) (by omega) (R := fun Γ1 d => ∃ y ∈ tks, d = .int y ∧ Γ1 = netE (c + 1) (.d (dL (leftP m n))) (.d (dP own)) .un m n (.m (.t (trueD ks))) (.m (.l (hs.map PyData.int))) (.m (.l (tks.map PyData.int)))) fun y hy => ⟨y, hy, rfl, rfl⟩) fun Γ1 d ⟨y, hy, q1, q2⟩ => ?_
        subst q1 q2
        refine xa_nil ⟨by show 2 ≤ 100000; decide, trueD ks, (own.2, y), rfl, rfl, by rw [trueD_length]; omega, ?_⟩
        rw [putD_true]
        refine ht_app rfl (ev_op (ev_var rfl) ev_int ix1) (by rw [List.length_map]; omega) ⟨c + 1, addK ks (own.2, y), hs ++ [own.2], tks, .d (dP own), by omega, ?_, ni.hand (by omega) hy, by have := addK_length (ks := ks) (k := (own.2, y)); omega, by rw [List.length_append]; show _ + 1 ≤ _; omega, by omega, by omega, fun p hp' => ?_⟩
        · rw [List.map_append]; rfl
        · rw [e] at hp'
          rcases List.mem_append.mp hp' with z | z
          · exact ⟨fun k => List.mem_append_left _ ((hd p z).1 k), (hd p z).2⟩
          · rw [List.mem_singleton.mp z]
            exact ⟨fun _ => List.mem_append_right _ (List.mem_singleton.mpr rfl), fun k => by omega⟩
      · have hb : own.1 ≠ 0 := of_decide_eq_false hb
        have hr : own.1 = 1 ∧ 1 ≤ own.2 ∧ own.2 < n := by rcases mem_leftP.mp hom with z | z <;> omega
        refine ht_seq (ht_dputX (kvs0 := trueD ks) rfl ev_bl (xd_tup (xa_cons (x_of1 B0 (zs := hs) rfl rfl (by decide) (fun z => by have := ni.h0; rw [z] at this; cases this) (by omega) (by omega) (R := fun Γ1 d => ∃ y ∈ hs, d = .int y ∧ Γ1 = netE (c + 1) (.d (dL (leftP m n))) (.d (dP own)) .un m n (.m (.t (trueD ks))) (.m (.l (hs.map PyData.int))) (.m (.l (tks.map PyData.int)))) fun y hy => ⟨y, hy, rfl, rfl⟩) fun Γ1 d ⟨y, hy, q1, q2⟩ => ?_)))
        subst q1 q2
        refine xa_cons (xd_of (ev_op (ev_var rfl) ev_int ix1) (R := fun Γ1 d => Γ1 = netE (c + 1) (.d (dL (leftP m n))) (.d (dP own)) .un m n (.m (.t (trueD ks))) (.m (.l (hs.map PyData.int))) (.m (.l (tks.map PyData.int))) ∧ d = .int own.2) ⟨rfl, rfl⟩) fun Γ1 d ⟨q1, q2⟩ => ?_
        subst q1 q2
        refine xa_nil ⟨by show 2 ≤ 100000; decide, trueD ks, (y, own.2), rfl, rfl, by rw [trueD_length]; omega, ?_⟩
        rw [putD_true]
        refine ht_app rfl (ev_op (ev_var rfl) ev_int ix1) (by rw [List.length_map]; omega) ⟨c + 1, addK ks (y, own.2), hs, tks ++ [own.2], .d (dP own), by omega, ?_, ni.task (by omega) hy, by have := addK_length (ks := ks) (k := (y, own.2)); omega, by omega, by rw [List.length_append]; show _ + 1 ≤ _; omega, by omega, fun p hp' => ?_⟩
        · rw [List.map_append]; rfl
        · rw [e] at hp'
          rcases List.mem_append.mp hp' with z | z
          · exact ⟨(hd p z).1, fun k => List.mem_append_left _ ((hd p z).2 k)⟩
          · rw [List.mem_singleton.mp z]
            exact ⟨fun k => absurd k hb, fun _ => List.mem_append_right _ (List.mem_singleton.mpr rfl)⟩
    · rintro Γ ⟨c, ks, hs, tks, e3, hc, rfl, ni, l1, l2, l3, hi, hd⟩
      rw [List.length_map] at hc l1 hi hd
      rw [List.take_length] at hd
      refine ⟨c, ks, hs, tks, e3, by omega, rfl, ⟨ni.nd, ni.r, fun p hp' => ?_⟩, by omega⟩
      obtain ⟨a, b⟩ := p
      rcases hp' with ⟨h1, h2, h3⟩ | ⟨h1, h2, h3⟩ <;> dsimp only at h1 h2 h3 <;> subst h1
      · by_cases hb : b = 0
        · subst hb; exact .refl _
        · exact (ni.h b ((hd (0, b) (hp.mem_iff.mpr (mem_leftP.mpr (.inl ⟨rfl, by dsimp only; omega, h3⟩)))).1 rfl)).2.2
      · by_cases hb : b = 0
        · subst hb; exact (ni.t 0 ni.t0).2.2
        · exact (ni.t b ((hd (1, b) (hp.mem_iff.mpr (mem_leftP.mpr (.inr ⟨rfl, by dsimp only; omega, h3⟩)))).2 rfl)).2.2
  rintro Γ ⟨c, ks, hs, tks, e3, hc, rfl, nj, lk⟩
  have hmn : 0 ≤ m * n ∧ m * n ≤ 25 := by
    have h1 : m = 1 ∨ m = 2 ∨ m = 3 ∨ m = 4 ∨ m = 5 := by omega
    rcases h1 with h | h | h | h | h <;> subst h <;> omega
  refine ht_seq (ht_imp (N' := fun Γ => ∃ (c : Nat) (ks : List P2) (e4 : En), c ≤ n0 + 140 ∧ Γ = netE c (.d (dL (leftP m n))) e3 e4 m n (.m (.t (trueD ks))) (.m (.l (hs.map PyData.int))) (.m (.l (tks.map PyData.int))) ∧ NJ m n ks ∧ ks.length < 60)
    (ht_forX (P := fun Γ' ds => ∃ z : Int, 0 ≤ z ∧ z ≤ 25 ∧ ds = rgD 0 z.toNat ∧ Γ' = netE (c + 1) (.d (dL (leftP m n))) e3 .un m n (.m (.t (trueD ks))) (.m (.l (hs.map PyData.int))) (.m (.l (tks.map PyData.int)))) (xi_rng1 (x_take B0 (b := m * n + 1) rfl (ed_cons (ev_op (ev_op (ev_var rfl) (ev_var rfl) (ro_IC (mul_l (by omega)))) ev_int ro_II) ed_nil) (by omega) (by omega) (by omega) fun z h0 h1 => ⟨z, rfl, by omega, by omega, z, h0, by omega, rfl, rfl⟩)) ?_) ?_)
  · rintro Γ' ds ⟨z, z0, z1, rfl, rfl⟩
    refine ⟨fun i Γ => ∃ (c' : Nat) (ks : List P2) (e4 : En), c' ≤ c + 1 + 2 * i ∧ Γ = netE c' (.d (dL (leftP m n))) e3 e4 m n (.m (.t (trueD ks))) (.m (.l (hs.map PyData.int))) (.m (.l (tks.map PyData.int))) ∧ NJ m n ks ∧ ks.length ≤ 9 + i, ⟨_, ks, _, Nat.le_refl _, rfl, nj, lk⟩, ?_, ?_⟩
    · rintro i x Γ hx ⟨c', ks, e4, hc', rfl, nj, lk⟩
      obtain ⟨hi, rfl⟩ := rgD_get hx
      refine ⟨_, _, eg_name, ht_dputX (kvs0 := trueD ks) rfl ev_bl (xd_tup (xa_cons (x_take B0 rfl (ed_cons (ev_var rfl) ed_nil) (by omega) (by omega) (by omega) (R := fun Γ1 d => ∃ y : Int, 0 ≤ y ∧ y < m ∧ d = .int y ∧ Γ1 = netE (c' + 1) (.d (dL (leftP m n))) e3 (.d (.int (0 + i))) m n (.m (.t (trueD ks))) (.m (.l (hs.map PyData.int))) (.m (.l (tks.map PyData.int)))) fun y h0 h1 => ⟨y, h0, h1, rfl, rfl⟩) fun Γ1 d ⟨y, y0, y1, q1, q2⟩ => ?_))⟩
      subst q1 q2
      refine xa_cons (x_take B0 rfl (ed_cons (ev_var rfl) ed_nil) (by omega) (by omega) (by omega) (R := fun Γ1 d => ∃ y : Int, 0 ≤ y ∧ y < n ∧ d = .int y ∧ Γ1 = netE (c' + 1 + 1) (.d (dL (leftP m n))) e3 (.d (.int (0 + i))) m n (.m (.t (trueD ks))) (.m (.l (hs.map PyData.int))) (.m (.l (tks.map PyData.int)))) fun y h0 h1 => ⟨y, h0, h1, rfl, rfl⟩) fun Γ1 d ⟨y2, y3, y4, q1, q2⟩ => ?_
      subst q1 q2
      refine xa_nil ⟨by show 2 ≤ 100000; decide, trueD ks, (y, y2), rfl, rfl, by rw [trueD_length]; omega, ?_⟩
      rw [putD_true]
      exact ⟨c' + 1 + 1, addK ks (y, y2), _, by omega, rfl, nj.add ⟨y0, y1, y3, y4⟩, by have := addK_length (ks := ks) (k := (y, y2)); omega⟩
    · rintro Γ ⟨c', ks, e4, hc', rfl, nj, lk⟩
      have el : (rgD 0 z.toNat).length = z.toNat := by simp [rgD]
      rw [el] at hc' lk
      exact ⟨c', ks, e4, by omega, rfl, nj, by omega⟩
  rintro Γ ⟨c', ks, e4, hc', rfl, nj, lk⟩
  refine ht_frzT (i := 7) rfl (ht_ret (ev_tupD (ds := [.int m, .int n, dT (sortP ks)]) (ed_cons (ev_var rfl) (ed_cons (ev_var rfl) (ed_cons (ev_cbD (ed_cons ((ev_sortedD (ev_varF rfl) (by rw [trueD_length]; omega) fun p hp' => ?_).is (by rw [trueD_keys])) ed_nil) rc_tupL) ed_nil))) (by show 3 ≤ 100000; decide)) ⟨_, c', rfl, ⟨m, n, sortP ks, rfl, nj.okw m1 n1 (by omega) (by omega), m5, n5, by rw [sortP_length]; exact lk⟩, rfl, by omega⟩)
  obtain ⟨q, hq, rfl⟩ := List.mem_map.mp hp'
  have r := nj.r q hq
  unfold BdP
  dsimp only
  omega
end
end G

set_option Elab.async false
set_option linter.all false
set_option maxRecDepth 100000
set_option maxHeartbeats 4000000
namespace G
open PySem L2
abbrev s__law_cells : Stmt := top 42
theorem sc__law_cells : FnScope ["_law_script", "_law_most_so", "_law_cells_so", "_law_k", "_law_bit_so", "_law_at_so"] ["_law_script", "_law_most_so"] (defScope s__law_cells) := ⟨rfl, rfl, rfl, by decide +kernel, rfl, by decide +kernel, by decide +kernel⟩
abbrev s__law_box : Stmt := top 40
theorem sc__law_box : FnScope ["_law_script", "_law_k", "_law_bit_so"] ["_law_script", "_law_k"] (defScope s__law_box) := ⟨rfl, rfl, rfl, by decide +kernel, rfl, by decide +kernel, by decide +kernel⟩
/-! ### forms of data -/
mutual
theorem tup_lst : ∀ d : D, tupD (lstD d) = tupD d
  | .list xs => by rw [lstD, tupD, tupD, tup_lsts xs]
  | .tuple xs => by rw [lstD, tupD, tupD, tup_lsts xs]
  | .none => rfl
  | .bool _ => rfl
  | .int _ => rfl
  | .str _ => rfl
  | .dict _ => rfl
theorem tup_lsts : ∀ ds : List D, tupDs (lstDs ds) = tupDs ds
  | [] => rfl
  | d :: ds => by rw [lstDs, tupDs, tupDs, tup_lst d, tup_lsts ds]
end
theorem okD_lst : ∀ {n : Nat} {d : D}, okD n d → okD n (lstD d)
  | 0, _, h => by unfold okD at h; exact h.elim
  | n + 1, .int _, _ => trivial
  | n + 1, .list ds, h => by
    rw [lstD, lstDs_map]
    exact ⟨by rw [List.length_map]; exact h.1, fun d hd => by
      obtain ⟨e, he, rfl⟩ := List.mem_map.mp hd
      exact okD_lst (h.2 e he)⟩
  | n + 1, .tuple ds, h => by
    rw [lstD, lstDs_map]
    exact ⟨by rw [List.length_map]; exact h.1, fun d hd => by
      obtain ⟨e, he, rfl⟩ := List.mem_map.mp hd
      exact okD_lst (h.2 e he)⟩
  | n + 1, .none, h => h.elim
  | n + 1, .bool _, h => h.elim
  | n + 1, .str _, h => h.elim
  | n + 1, .dict _, h => h.elim
theorem okD_pr (n : Nat) (p : P2) : okD (n + 2) (dP p) := ⟨by show 2 ≤ 1000; decide, fun d hd => by
  rcases List.mem_cons.mp hd with z | z
  · subst z; trivial
  · rw [List.mem_singleton.mp z]; trivial⟩
theorem okD_prs (n : Nat) {us : List P2} (h : us.length ≤ 1000) : okD (n + 3) (dT us) := ⟨by rw [List.length_map]; exact h, fun d hd => by
  obtain ⟨p, _, rfl⟩ := List.mem_map.mp hd
  exact okD_pr n p⟩
theorem okD_net {m n : Int} {ts : List P2} (h : ts.length ≤ 1000) : okD 4 (dN m n ts) := ⟨by show 3 ≤ 1000; decide, fun d hd => by
  rcases List.mem_cons.mp hd with z | z
  · subst z; trivial
  · rcases List.mem_cons.mp z with z | z
    · subst z; trivial
    · rw [List.mem_singleton.mp z]; exact okD_prs 0 h⟩
theorem tupDs_prs : ∀ us : List P2, tupDs (us.map dP) = us.map dP
  | [] => rfl
  | u :: us => by rw [List.map_cons, tupDs, tupDs_prs us]; rfl
theorem tupD_prs (us : List P2) : tupD (dT us) = dT us := by rw [tupD, tupDs_prs]
theorem tupD_prsL (us : List P2) : tupD (dL us) = dT us := by rw [tupD, tupDs_prs]
theorem okD_prsL (n : Nat) {us : List P2} (h : us.length ≤ 1000) : okD (n + 3) (dL us) := ⟨by rw [List.length_map]; exact h, fun d hd => by
  obtain ⟨p, _, rfl⟩ := List.mem_map.mp hd
  exact okD_pr n p⟩
theorem tupD_net (m n : Int) (ts : List P2) : tupD (dN m n ts) = dN m n ts := by
  show PyData.tuple [tupD (.int m), tupD (.int n), tupD (dT ts)] = _
  rw [tupD_prs]; rfl
abbrev lP (p : P2) : D := .list [.int p.1, .int p.2]
theorem okD_lp (n : Nat) (p : P2) : okD (n + 2) (lP p) := ⟨by show 2 ≤ 1000; decide, fun d hd => by
  rcases List.mem_cons.mp hd with z | z
  · subst z; trivial
  · rw [List.mem_singleton.mp z]; trivial⟩
theorem okS_pr (n : Nat) (p : P2) : okS (n + 2) (dP p) := ⟨by show 2 ≤ 1000; decide, fun d hd => by
  rcases List.mem_cons.mp hd with z | z
  · subst z; trivial
  · rw [List.mem_singleton.mp z]; trivial⟩
theorem okS_prs (n : Nat) {us : List P2} (h : us.length ≤ 1000) : okS (n + 3) (dT us) := ⟨by rw [List.length_map]; exact h, fun d hd => by
  obtain ⟨p, _, rfl⟩ := List.mem_map.mp hd
  exact okS_pr n p⟩
theorem okS_cannot (n : Nat) : okS (n + 2) (.list [.str "cannot", .bool true]) := ⟨by show 2 ≤ 1000; decide, fun d hd => by
  rcases List.mem_cons.mp hd with z | z
  · subst z; show PyData.strOk _ = true; decide +kernel
  · rw [List.mem_singleton.mp z]; trivial⟩
theorem okS_heard (n : Nat) {r : Option (List P2)} (h : ∀ w, r = some w → w.length ≤ 1000) : okS (n + 3) (heardD r) := by
  cases r with
  | none => exact okS_cannot (n + 1)
  | some w => exact okS_prs n (h w rfl)
theorem okS_two {n : Nat} {a b : D} (h : okS n a) (k : okS n b) : okS (n + 1) (.list [a, b]) := ⟨by show 2 ≤ 1000; decide, fun d hd => by
  rcases List.mem_cons.mp hd with z | z
  · subst z; exact h
  · rw [List.mem_singleton.mp z]; exact k⟩
/-! ### slices, or, fresh lists -/
def cutA {α : Type} (xs : List α) (lo hi : Option Int) : List α := (xs.drop (HT.sIx xs.length 0 lo)).take (HT.sIx xs.length xs.length hi - HT.sIx xs.length 0 lo)
theorem cutA_map {α β : Type} (f : α → β) (xs : List α) (lo hi : Option Int) : cutA (xs.map f) lo hi = (cutA xs lo hi).map f := by unfold cutA; rw [List.length_map, List.map_take, List.map_drop]
theorem cutA_length {α : Type} (xs : List α) (lo hi : Option Int) : (cutA xs lo hi).length ≤ xs.length := by unfold cutA; rw [List.length_take, List.length_drop]; omega
def EvO (B : Bs) (to : TO) (Γ : List En) (o : Option Int) : Prop := ∀ σ ts H, Stt B σ Γ ts H → ∀ Q : Option Int → Hp → Prop, (∀ H', Stt B σ Γ ts H' → Q o H') → to σ H Q
section
variable {B : Bs} {Γ : List En} {te ta tb : TE} {tA : TA} {tl th : TO} {K : PySem.W.Frag} {ds es : List D}
theorem eo_none : EvO B tNoPart Γ none := fun σ ts H s Q q => q H s
theorem eo_some {i : Int} (h : EvE B te Γ (.d (.int i))) : EvO B (tPart te) Γ (some i) := fun σ ts H s Q q => h σ ts H s _ fun v H1 s1 => by
  have k := s1.top
  cases k
  exact ⟨i, rfl, q H1 s1.pop⟩
theorem DdAll.drop {H : Hp} : ∀ {xs : List V} {ds : List D} (k : Nat), DdAll H xs ds → DdAll H (xs.drop k) (ds.drop k)
  | _, _, 0, h => h
  | _, _, _ + 1, .nil => .nil
  | _, _, k + 1, .cons _ t => DdAll.drop k t
theorem DdAll.take {H : Hp} : ∀ {xs : List V} {ds : List D} (k : Nat), DdAll H xs ds → DdAll H (xs.take k) (ds.take k)
  | _, _, 0, _ => by rw [List.take_zero, List.take_zero]; exact .nil
  | _, _, _ + 1, .nil => .nil
  | _, _, k + 1, .cons h t => .cons h (DdAll.take k t)
theorem DdAll.cut {H : Hp} {xs : List V} {ds : List D} (lo hi : Option Int) (h : DdAll H xs ds) : DdAll H (cutV xs lo hi) (cutA ds lo hi) := by
  unfold cutV cutA
  rw [h.length]
  exact (h.drop _).take _
theorem ev_slice {lo hi : Option Int} (h : EvE B te Γ (.d (.list ds))) (h1 : EvO B tl Γ lo) (h2 : EvO B th Γ hi) : EvE B (tSl (rSlL K) te tl th) Γ (.d (.list (cutA ds lo hi))) := fun σ ts H s Q q =>
  h σ ts H s _ fun v H1 s1 => h1 σ _ H1 s1 _ fun H2 s2 => h2 σ _ H2 s2 _ fun H3 s3 => by
    obtain ⟨hl, I, g, k, e⟩ := s3.one
    cases k with
    | lst e1 t => exact ⟨_, _, rfl, SqL.of (g.s _ _ e1), fun p hp => q _ _ (Stt.fin hl g e (Gr.new g.s hp) (.lst upd_same ((t.cut lo hi).mono (same_new _ (none_of_same g.s hp)))))⟩
theorem Stt.getR {σ : L2.St} {ts : List Cell} {H : Hp} {i : Nat} {u : V} (h : Stt B σ Γ ts H) (k : Γ[i]? = some (.raw u)) : σ[i]? = some (some u) := by
  obtain ⟨h1, I, g, e⟩ := h
  obtain ⟨o, e1, e2⟩ := zip_get h1 k
  obtain ⟨v, hv, hd⟩ := e.ok _ (List.mem_append_right _ (List.mem_of_getElem? e2)) (fun z => nomatch z)
  have hv : o = some v := hv
  have hd : v = u := hd
  rw [e1, hv, hd]
theorem Stt.grew {σ : L2.St} {ts : List Cell} {H : Hp} (h : Stt B σ Γ ts H) (hT : B.T = T0) : Same B.H0 H := by
  obtain ⟨_, I, g, _⟩ := h
  exact fun b o e => g.h b o e (by rw [hT]; exact id)
/-- a slice of what we do not own -/
theorem ev_sliceR {i : Nat} {a : Addr} {ns : List Int} {lo hi : Option Int} (h : Γ[i]? = some (.raw (.ref a))) (hS : SqL K B.H0 a (ns.map V.int)) (hT : B.T = T0) (h1 : EvO B tl Γ lo) (h2 : EvO B th Γ hi) : EvE B (tSl (rSlL K) (tVar i) tl th) Γ (.d (.list ((cutA ns lo hi).map PyData.int))) := fun σ ts H s Q q =>
  ⟨_, Stt.getR s h, h1 σ ts H s _ fun H2 s2 => h2 σ ts H2 s2 _ fun H3 s3 => by
    have sm := Stt.grew s3 hT
    obtain ⟨hl, I, g, e⟩ := s3
    refine ⟨_, _, rfl, Same.seq sm hS, fun p hp => q _ _ (Stt.fin hl g e (Gr.new g.s hp) (.lst upd_same ?_))⟩
    have ec : cutV (ns.map V.int) lo hi = (cutA ns lo hi).map V.int := cutA_map V.int ns lo hi
    rw [ec]
    exact DdAll.of_ints _⟩
theorem ev_orL (h : EvE B ta Γ (.m (.l ds))) (hd : ds ≠ []) : EvE B (tOrT K ta tb) Γ (.m (.l ds)) := fun σ ts H s Q q => h σ ts H s _ fun v H1 s1 => by
  obtain ⟨p, I, o, ev, sI, hH, ⟨xs, eo, hx⟩, ow⟩ := s1.topM
  subst ev eo
  have hne : xs.isEmpty = false := by
    cases xs with
    | nil => cases hx; exact absurd rfl hd
    | cons => rfl
  exact ⟨true, .inl ⟨xs, SqL.of hH, by rw [hne]; rfl⟩, by rw [if_pos rfl]; exact q _ H1 s1⟩
theorem ev_orR {e : En} (h : EvE B ta Γ (.m (.l []))) (h2 : EvE B tb Γ e) : EvE B (tOrT K ta tb) Γ e := fun σ ts H s Q q => h σ ts H s _ fun v H1 s1 => by
  obtain ⟨p, I, o, ev, sI, hH, ⟨xs, eo, hx⟩, ow⟩ := s1.topM
  subst ev eo
  cases hx
  exact ⟨false, .inl ⟨[], SqL.of hH, rfl⟩, by rw [if_neg Bool.false_ne_true]; exact h2 σ ts H1 s1.pop Q q⟩
end
/-- a fresh list of three ints, the last 0 -/
def EvT (B : Bs) (te : TE) (Γ : List En) : Prop := ∀ σ ts H, Stt B σ Γ ts H → ∀ Q : VK, (∀ v H' (a b : Int), Stt B σ Γ ((some v, .m (.l [.int a, .int b, .int 0])) :: ts) H' → Q v H') → te σ H Q
def spB {α : Type} (shape : α → List D) (pre : α → Prop) : Sp := fun vs H Q _ => ∃ I x, Same I H ∧ DdAll I vs (shape x) ∧ pre x ∧ ∀ p I' H' (a b : Int), Gr T0 I H I' H' → H p = none → I' p = none → H' p = some (.lst [.int a, .int b, .int 0]) → Q (.ref p) H'
section
variable {B : Bs} {Γ : List En} {te : TE} {tA : TA} {K : PySem.W.Frag} {d : D}
theorem et_call {α : Type} {shape : α → List D} {pre : α → Prop} {E : XK} (h : EvXA B tA Γ fun Γ' ds => Γ' = Γ ∧ ∃ x, ds = shape x ∧ pre x) : EvT B (tCall (spB shape pre) [] E tA) Γ := fun σ ts H s Q q =>
  h σ ts H s _ fun Γ' ds vs H1 ⟨e0, x, ex, hp⟩ hl s1 => by
    subst e0 ex
    obtain ⟨h0, I, g, k, e'⟩ := s1.args hl
    show spB shape pre (vs ++ []) H1 Q E
    rw [List.append_nil]
    refine ⟨I, x, g.s, k, hp, fun p I' H' a b g' hp0 hI' hH' => q _ H' a b ?_⟩
    have h00 : B.H0 p = none := by
      cases z : B.H0 p with
      | none => rfl
      | some o => obtain ⟨o', z', _⟩ := g.d p o z; rw [hp0] at z'; cases z'
    refine ⟨h0, I', g.trans g'.weak, (e'.grow g').cons ⟨p, _, rfl, hI', h00, hH', _, rfl, .cons (.int a) (.cons (.int b) (.cons (.int 0) .nil))⟩ fun y hy u w r ua yb yc yd => ?_⟩
    have yc : V.ref p = V.ref r := Option.some.inj yc
    injection yc with yc
    subst yc
    obtain ⟨v, hv, hk⟩ := e'.ok y hy (by rw [yb]; exact fun z => nomatch z)
    rw [yb] at hk
    obtain ⟨p', o', e1, _, _, e4, _⟩ := hk
    rw [yd] at hv
    have hv := Option.some.inj hv
    subst hv
    injection e1 with e1
    subst e1
    rw [hp0] at e4
    cases e4
/-- what a callee does to an own object of ours -/
theorem Gr.over {T : Addr → Prop} {I0 H0 I H I' H' : Hp} {t : Addr} (g0 : Gr T I0 H0 I H) (ho : T t ∨ H0 t = none) (g : Gr (fun a => a = t) I H I' H') : Gr T I0 H0 I' H' := by
  refine ⟨g0.i.trans g.i, fun b u eb nb => g.h b u (g0.h b u eb nb) fun z => ?_, g.s, fun p o h k z => ?_, fun p o h => ?_⟩
  · subst z
    rcases ho with z | z
    · exact nb z
    · rw [z] at eb; cases eb
  · obtain ⟨o', h', k'⟩ := g0.d p o h
    exact g.n p o' h' (k' k) (g0.n p o h k z)
  · obtain ⟨o', h', k'⟩ := g0.d p o h
    obtain ⟨o2, h2, k2⟩ := g.d p o' h'
    exact ⟨o2, h2, fun z => k2 (k' z)⟩
theorem bit_bd (b : Bool) : -1000000000000 ≤ (if b then (1 : Int) else 0) ∧ (if b then (1 : Int) else 0) ≤ 1000000000000000 := by cases b <;> decide
theorem ev_callFresh {c : Nat} {Pre : List D → Prop} {Post : List D → D → Prop} {E : XK} (h : EvT B te Γ) (hp : Pre []) (hc : c ≤ 2 ^ 40) (hq : ∀ d', Post [] d' → d' = d) : EvE B (tCall (spT c Pre Post) [] E (tCons te tNil)) Γ (.d d) := fun σ ts H s Q q =>
  h σ ts H s _ fun v H1 a b s1 => by
    obtain ⟨hl, I, g, e⟩ := s1
    obtain ⟨v', hv, t, o, ev, hI, ow, hH, xs, eo, hx⟩ := e.ok _ List.mem_cons_self (fun z => nomatch z)
    have hv : v = v' := Option.some.inj hv
    subst hv ev eo
    have ex : xs = [.int a, .int b, .int 0] := by
      cases hx with
      | cons h1 hx => cases hx with
        | cons h2 hx => cases hx with
          | cons h3 hx => cases hx; cases h1; cases h2; cases h3; rfl
    subst ex
    have hd := List.pairwise_cons.mp e.dj
    have et := e.tail
    refine ⟨I, t, [], [], 0, rfl, g.s, hI, ⟨a, b, 0, hH, by omega, by omega⟩, by omega, .nil, hp, fun v I' H' d' g' hI' ht' pd kd => q v H' ?_⟩
    rw [hq d' pd] at kd
    refine ⟨hl, I', g.over (.inr ow) g', Env.consD ⟨fun y hy hn => ?_, et.dj⟩ kd⟩
    obtain ⟨w, hw, k⟩ := et.ok y hy hn
    refine ⟨w, hw, ?_⟩
    have ap := hd.1 y hy
    obtain ⟨yc, ye⟩ := y
    dsimp only at k hw ap ⊢
    cases ye with
    | un => trivial
    | d x => exact Dd.mono g'.i k
    | ft x => obtain ⟨q, ks, a, b, c⟩ := k; exact ⟨q, ks, a, g'.i _ _ b, c.mono g'.i⟩
    | raw u => exact k
    | m u2 =>
      obtain ⟨q, o2, a, b, c, d, f⟩ := k
      refine ⟨q, o2, a, g'.n q o2 d f.nt b, c, g'.h q o2 d fun z => ?_, f.mono g'.i⟩
      subst z
      rw [hw, a] at ap
      exact ap _ _ q rfl rfl rfl rfl
end
section
variable {P : Program} {w : World} {K : PySem.W.Frag} {mg : Str → Option Value} {base : Heap} {x : Str} {st : Stmt} {f : Addr} {fd : FuncData} {N ps : List Str} {k : Nat}
theorem fnB {α : Type} {shape : α → List D} {pre : α → Prop} (F : Fun K x x st f fd) (S : FnScope N ps (defScope st)) (hn : ∀ x, (shape x).length = ps.length) (hN : ps.length ≤ N.length)
    (body : ∀ (cdv : Value) (A : Around) (outer : List PySem.Env) (s : Shared) (H : Hp) (E : XK), Room k (A.deeper (PyProof.Rows.envOfC x (defScope st) s.heap.objs.size f cdv)) →
      ∃ t, PSs (cxOf CX0 P w K mg base N x (defScope st) f cdv A outer s H E).nox (defBody st) t ∧
        ∀ (B : Bs) x, pre x → HT B t ((shape x).map En.d ++ List.replicate (N.length - (shape x).length) En.un) (fun _ => False) (fun _ e => ∃ a b : Int, e = .m (.l [.int a, .int b, .int 0]))) :
    FnOk P w K mg base CX0 (k + 1) f fd ps (spB shape pre) := by
  refine F.ok S (fun vs H Q E ⟨I, x, sI, hd, hp, q⟩ => by rw [hd.length]; exact hn x) fun cdv A outer s H vs Q E hr ⟨I, x, sI, hd, hp, q⟩ => ?_
  obtain ⟨t, ht, hb⟩ := body cdv A outer s H E hr
  refine ⟨t, ht, ?_⟩
  have s0 := stt_start (K := K) N sI hd (by rw [hn x]; exact hN)
  refine hb _ x hp _ [] H _ s0 (fun Γ' σ' H' hN s' => hN.elim) fun Γ' e σ' v H' ⟨a, b, ed⟩ s' => ?_
  subst ed
  obtain ⟨hl, I', g, e⟩ := s'
  obtain ⟨v', hv, p, o, ev, hI, ow, hH, xs, eo, hx⟩ := e.ok _ List.mem_cons_self (fun z => nomatch z)
  have hv : v = v' := Option.some.inj hv
  subst hv ev eo
  have ex : xs = [.int a, .int b, .int 0] := by
    cases hx with
    | cons h1 hx => cases hx with
      | cons h2 hx => cases hx with
        | cons h3 hx => cases hx; cases h1; cases h2; cases h3; rfl
  subst ex
  exact q p I' H' a b g ow hI hH
end
section
variable {P : Program} {w : World} {K : PySem.W.Frag} {mg : Str → Option Value} {base : Heap} (B0 : Bi mg)
include B0
abbrev sp__law_cells (K : PySem.W.Frag) : Sp := fun vs H Q _ => ∃ (I : Hp) (a : Addr) (ns : List Int), Same I H ∧ vs = [.ref a, .int 1] ∧ SqL K H a (ns.map V.int) ∧ ns.length ≤ 63 ∧ ∀ v I' H' (z : Int), Gr T0 I H I' H' → Dd I' v (dI [z]) → Q v H'
omit B0 in
theorem fnC {f : Addr} {fd : FuncData} {x : Str} {st : Stmt} {k : Nat} {N ps : List Str} (F : Fun K x x st f fd) (S : FnScope N ps (defScope st)) (hn : ps.length = 2) (hN : N.length = 6)
    (body : ∀ (cdv : Value) (A : Around) (outer : List PySem.Env) (s : Shared) (H : Hp) (E : XK), Room k (A.deeper (PyProof.Rows.envOfC x (defScope st) s.heap.objs.size f cdv)) →
      ∃ t, PSs (cxOf CX0 P w K mg base N x (defScope st) f cdv A outer s H E).nox (defBody st) t ∧
        ∀ (B : Bs) a (ns : List Int), B.T = T0 → SqL K B.H0 a (ns.map V.int) → ns.length ≤ 63 → HT B t [.raw (.ref a), .d (.int 1), .un, .un, .un, .un] (fun _ => False) (fun _ e => ∃ z : Int, e = .d (dI [z]))) :
    FnOk P w K mg base CX0 (k + 1) f fd ps (sp__law_cells K) := by
  refine F.ok S (fun vs H Q E ⟨I, a, ns, sI, ev, hS, hl, q⟩ => by rw [ev, hn]; rfl) fun cdv A outer s H vs Q E hr ⟨I, a, ns, sI, ev, hS, hl, q⟩ => ?_
  subst ev
  obtain ⟨t, ht, hb⟩ := body cdv A outer s H E hr
  refine ⟨t, ht, ?_⟩
  have s0 : Stt ⟨K, T0, I, H⟩ (start N [.ref a, .int 1]) [.raw (.ref a), .d (.int 1), .un, .un, .un, .un] [] H := by
    have e1 : start N [.ref a, .int 1] = [some (.ref a), some (.int 1), none, none, none, none] := by rw [start_eq, hN]; rfl
    rw [e1]
    refine ⟨rfl, I, Gr.refl sI, fun x hx hn => ?_, apart_noM fun x hx u z => ?_⟩
    · simp only [List.zip_cons_cons, List.zip_nil_right, List.nil_append, List.mem_cons, List.not_mem_nil, or_false] at hx
      rcases hx with h | h | h | h | h | h
      · subst h; exact ⟨_, rfl, rfl⟩
      · subst h; exact ⟨_, rfl, Dd.int 1⟩
      all_goals (subst h; exact absurd rfl hn)
    · simp only [List.zip_cons_cons, List.zip_nil_right, List.nil_append, List.mem_cons, List.not_mem_nil, or_false] at hx
      rcases hx with h | h | h | h | h | h <;> (subst h; cases z)
  refine hb _ a ns rfl hS hl _ [] H _ s0 (fun Γ' σ' H' hN s' => hN.elim) fun Γ' e σ' v H' ⟨z, ed⟩ s' => ?_
  subst ed
  obtain ⟨hl, I', g, k, _⟩ := s'.one
  exact q v I' H' z g k
theorem xd_callC {B : Bs} {Γ : List En} {i : Nat} {a : Addr} {ns : List Int} {E : XK} (h : Γ[i]? = some (.raw (.ref a))) (hS : SqL K B.H0 a (ns.map V.int)) (hT : B.T = T0) (hl : ns.length ≤ 63) :
    EvXd B (tCall (sp__law_cells K) [] E (tCons (tVar i) (tCons (tC (.int 1)) tNil))) Γ (fun Γ1 d => Γ1 = Γ ∧ ∃ z : Int, d = dI [z]) := fun σ ts H s Q q =>
  ⟨_, Stt.getR s h, by
    have sm := Stt.grew s hT
    obtain ⟨h0, I, g, e⟩ := s
    exact ⟨I, a, ns, g.s, rfl, Same.seq sm hS, hl, fun v I' H' z g' k' => q Γ _ v H' ⟨rfl, z, rfl⟩ (Stt.fin h0 g e g' k')⟩⟩
theorem ok__law_cells (d : Dfx K mg "_law_cells" s__law_cells ["_law_script", "_law_most_so"]) : Cal P w K mg base CX0 1 "_law_cells" s__law_cells ["_law_script", "_law_most_so"] (sp__law_cells K) := d.cal fun f fd F => by
  refine fnC F sc__law_cells rfl rfl fun cdv A outer s H E hr => ?_
  have hu64 := hr.units
  have hu65 := hu65_of hr
  have hu := hu_of hr
  have hu0 := hr.units0
  have nd := sc__law_cells.nd
  refine ⟨_, (pss_cons (ps_set (i := 2) nd rfl (Or.inl rfl) (pe_orT (pe_callTy (k_list K rfl) rfl B0.list (by decide +kernel) (pa_cons (pe_slice (k_slL K rfl) (pv 0) po_none (po_some (pv 1))) pa_nil)) (pe_one (pe_lst (pa_cons pe_int pa_nil)))))
    (pss_cons (ps_for PassesOwn.never rfl (pi_enum rfl B0.enumerate (pa_cons (pe_slice (k_slL K rfl) (pv 0) (po_some (pv 1)) (po_some pe_int)) pa_nil)) (k_tup (n := 2) K rfl rfl (pgs_cons (pg_name (i := 3) nd rfl (by first | exact Or.inl rfl | exact Or.inr rfl)) (pgs_cons (pg_name (i := 4) nd rfl (by first | exact Or.inl rfl | exact Or.inr rfl)) pgs_nil))) (pss_cons (ps_set (i := 5) nd rfl (Or.inl rfl) (pe_op op_mod (pe_callTy call_int1 rfl B0.int (by decide +kernel) (pa_cons (pv 3) pa_nil)) (pv 1)))
    (pss_one (ps_asg (pe_op op_add (pe_ix (k_ixL K rfl) (pv 2) (pv 5) (fun _ _ => rfl)) (pe_op op_mul (pv 4) (pe_op op_add (pv 3) pe_int))) (pg_sub (pv 2) (pv 5) set_list)))))
    (pss_one (ps_ret (pv 2))))), ?_⟩
  intro B a ns hT hS h1
  have hc1 : ∃ z : Int, ∀ {Γ : List En}, Γ[0]? = some (.raw (.ref a)) → Γ[1]? = some (.d (.int 1)) → EvE B (tOrT K (tCB (rListOf K) (tCons (tSl (rSlL K) (tVar 0) tNoPart (tPart (tVar 1))) tNil)) (tLst (tCons (tC (.int 0)) tNil))) Γ (.m (.l [.int z])) := by
    have e1 : cutA ns none (some 1) = ns.take 1 := by
      unfold cutA HT.sIx
      cases ns with
      | nil => rfl
      | cons a l => simp
    cases ns with
    | nil => exact ⟨0, fun g0 g1 => ev_orR ((ev_listM (ev_sliceR g0 hS hT eo_none (eo_some (ev_var g1)))).is (by rw [e1]; rfl)) (ev_lstM (ds := [.int 0]) (ea_cons ev_int ea_nil))⟩
    | cons b l => exact ⟨b, fun g0 g1 => ev_orL ((ev_listM (ev_sliceR g0 hS hT eo_none (eo_some (ev_var g1)))).is (by rw [e1]; rfl)) (fun z => nomatch z)⟩
  obtain ⟨z0, hc1⟩ := hc1
  refine ht_seq (ht_set (hc1 rfl rfl) ?_)
  have l2 := cutA_length ns (some 1) (some 63)
  refine ht_seq (ht_for (fun i Γ => ∃ (z : Int) (e3 e4 e5 : En), Γ = [.raw (.ref a), .d (.int 1), .m (.l [.int z]), e3, e4, e5]) (ei_enum (ed_cons (ev_sliceR rfl hS hT (eo_some (ev_var rfl)) (eo_some ev_int)) ed_nil)) ⟨z0, _, _, _, rfl⟩ (fun i x Γ hx ⟨z, e3, e4, e5, e⟩ => ?_) fun Γ ⟨z, e3, e4, e5, e⟩ => ?_)
  · subst e
    rw [List.length_map] at hx
    rw [List.getElem?_map] at hx
    obtain ⟨j, hj, rfl⟩ := Option.map_eq_some_iff.mp hx
    have hi : i < (cutA ns (some 1) (some 63)).length := by
      have := (List.getElem?_eq_some_iff.mp hj).1
      simpa using this
    rw [List.getElem?_range hi] at hj
    cases hj
    rw [List.getElem?_map, List.getElem?_eq_getElem hi]
    refine ⟨_, _, eg_tup2 (a := .int i) (b := .int (cutA ns (some 1) (some 63))[i]), ?_⟩
    have em : ((i : Int) % 1) = 0 := Int.emod_one _
    refine ht_seq (ht_set' (e := .d (.int 0)) (ev_op (ev_cbD (ed_cons (ev_var rfl) ed_nil) rc_int) (ev_var rfl) (ro_IC (by decide))) (by rw [em]) ?_)
    exact ht_lset (z := 0) rfl (ev_op (ev_ixM rfl (ev_var rfl) (Int.le_refl 0) rfl) (ev_op (ev_var rfl) (ev_op (ev_var rfl) ev_int ro_II) (ro_IC (mul_r (by omega)))) ro_II) (ev_var rfl) (Int.le_refl 0) (by show (0 : Int) < 1; decide) ⟨_, _, _, _, rfl⟩
  · subst e
    exact ht_frz (i := 2) rfl (ht_ret (ev_var rfl) ⟨z, rfl⟩)
abbrev sp__law_box : Sp := spB (fun x : Int => [dI [x], .int 0]) fun _ => True
theorem ok__law_box (d : Dfx K mg "_law_box" s__law_box ["_law_script", "_law_k"]) : Cal P w K mg base CX0 1 "_law_box" s__law_box ["_law_script", "_law_k"] sp__law_box := d.cal fun f fd F => by
  refine fnB F sc__law_box (fun _ => rfl) (by decide) fun cdv A outer s H E hr => ?_
  have hu64 := hr.units
  have hu65 := hu65_of hr
  have hu := hu_of hr
  have hu0 := hr.units0
  have nd := sc__law_box.nd
  refine ⟨_, (pss_cons (ps_set (i := 2) nd rfl (Or.inl rfl) (pe_ifExp (pt_cmpR op_lt (pv 1) (pe_callB (k_len K rfl) rfl B0.len (by decide +kernel) (pa_cons (pv 0) pa_nil)) (nomark _)) (pe_ix (k_ixL K rfl) (pv 0) (pv 1) (fun _ _ => rfl)) pe_int))
    (pss_one (ps_ret (pe_lst (pa_cons (pe_op op_mul (pe_callB call_abs rfl B0.abs (by decide +kernel) (pa_cons (pv 2) pa_nil)) (pe_callTy call_int1 rfl B0.int (by decide +kernel) (pa_cons (pe_cmpR op_ge (pe_callB call_abs rfl B0.abs (by decide +kernel) (pa_cons (pv 2) pa_nil)) (pe_op op_pow pe_int pe_int) (nomark _)) pa_nil))) (pa_cons (pe_op op_add (pe_op op_add (pe_op op_mod (pe_callTy call_int1 rfl B0.int (by decide +kernel) (pa_cons (pv 2) pa_nil)) pe_int) (pe_op op_mul pe_int (pv 1))) pe_int) (pa_cons pe_int pa_nil))))))), ?_⟩
  rintro B z _
  refine ht_seq (ht_set' (e := .d (.int z)) (ev_if (b := true) (eb_test ((ev_op (ev_var rfl) (ev_cbD (ed_cons (ev_var rfl) ed_nil) rc_lenL) ro_IB).is rfl)) (fun _ => ev_op (ev_var rfl) (ev_var rfl) (ro_ixL (z := 0) (Int.le_refl 0) rfl)) fun z => nomatch z) rfl ?_)
  exact ht_ret (ev_lstM (ea_cons (ev_op (ev_cbD (ed_cons (ev_var rfl) ed_nil) rc_abs) (ev_cbD (ed_cons (ev_op (ev_cbD (ed_cons (ev_var rfl) ed_nil) rc_abs) (ev_op ev_int ev_int (ro_IC ⟨by decide, by decide, by decide⟩)) ro_IB) ed_nil) rc_intB) (ro_IC (mul_r (bit_bd _)))) (ea_cons (ev_op (ev_op (ev_op (ev_cbD (ed_cons (ev_var rfl) ed_nil) rc_int) ev_int (ro_IC (by decide))) (ev_op ev_int (ev_var rfl) (ro_IC (mul_l (by decide)))) ro_II) ev_int ro_II) (ea_cons ev_int ea_nil))) (by show 3 ≤ 100000; decide)) ⟨_, _, rfl⟩
end
end G

set_option Elab.async false
set_option linter.all false
set_option maxRecDepth 100000
set_option maxHeartbeats 4000000
namespace G
open PySem L2
abbrev s__law_right : Stmt := top 58
theorem sc__law_right : FnScope ["_law_tin", "_law_net_here", "_law_spots_so", "_law_lap", "_law_rest_so", "_law_due", "_law_lone_so", "_law_put_so", "_law_later_so", "_law_boughs", "_law_soft", "_law_out_so", "_law_half", "_law_close_so", "_law_one", "_law_two", "_law_own", "_law_bond"] ["_law_tin"] (defScope s__law_right) := ⟨rfl, rfl, rfl, by decide +kernel, rfl, by decide +kernel, by decide +kernel⟩
theorem eqv_mixed (us : List P2) (ds : List D) : PyData.eqv (.list ds) (dT us) = false := by simp [PyData.eqv]
theorem spots_eq (m n : Int) : PyData.list ((List.range m.toNat).map (fun (i : Nat) => dP ((0 : Int), (0 : Int) + i)) ++ (List.range n.toNat).map fun (i : Nat) => dP ((1 : Int), (0 : Int) + i)) = dL (spots m n) := by
  show _ = PyData.list _
  unfold spots
  rw [List.map_append, List.map_map, List.map_map]; rfl
section
variable {P : Program} {w : World} {K : PySem.W.Frag} {mg : Str → Option Value} {base : Heap} {C : Addr} (B0 : Bi mg)
include B0
theorem ev_same {B : Bs} {Γ : List En} {ta tb : TE} {E : XK} {d : D} (h1 : EvE B ta Γ (.d d)) (h2 : EvE B tb Γ (.d d)) (hk : okS 6 d) : EvE B (tCall sp__law_same [] E (tCons ta (tCons tb tNil))) Γ (.d (.bool true)) := ev_callR (ed_cons h1 (ed_cons h2 ed_nil)) d rfl hk
theorem ht_same {B : Bs} {Γ : List En} {ta tb : TE} {E : XK} {d : D} {u t : TS} {N : List En → Prop} {R : List En → En → Prop} (h1 : EvE B ta Γ (.d d)) (h2 : EvE B tb Γ (.d d)) (hk : okS 6 d) (h : HT B t Γ N R) :
    HT B (tSeq (tIfS (tNot (tB (tCall sp__law_same [] E (tCons ta (tCons tb tNil))))) u tNext) t) Γ N R :=
  ht_seq (ht_if (b := false) (eb_is (eb_not (eb_B (ev_same B0 h1 h2 hk))) rfl) (fun z => nomatch z) fun _ => ht_next h)
theorem ev_cannot {B : Bs} {Γ : List En} : EvE B (tLst (tCons (tC (.str "cannot")) (tCons (tC (.bl true)) tNil))) Γ (.d (.list [.str "cannot", .bool true])) := ev_lstD (ed_cons ev_str (ed_cons ev_bl ed_nil)) (by decide)
theorem ev_heard {B : Bs} {Γ : List En} {tA : TA} {E : XK} {m n : Int} {ts us : List P2} {d1 d2 : D} (d3 d4 : D) (ask : Ask) {d : D} (h : EvD B tA Γ [.int ask.door, d1, d2, d3, d4]) (wt : WT ((m, n, ts), us) d1 d2) (hc : AllCon m n us) (hp : ask.pre ts d3 d4) (r : heardD (ask.res us) = d) :
    EvE B (tCall sp__law_heard [] E tA) Γ (.d d) := (ev_callR h (((m, n, ts), us), (d1, d2), (d3, d4), ask) rfl ⟨wt, hc, hp⟩).is (congrArg En.d r)
abbrev sp__law_right : Sp := spT 300 (fun ds => ∃ _ : Unit, ds = [] ∧ True) fun _ d => d = .bool true
theorem ok__law_right (c__law_net : Cal P w K mg base CX0 3 "_law_net" s__law_net ["_law_tin", "_law_most_so"] sp__law_net) (c__law_lists : Cal P w K mg base CX0 4 "_law_lists" s__law_lists ["_law_matter"] sp__law_lists) (c__law_any_tree : Cal P w K mg base CX0 3 "_law_any_tree" s__law_any_tree ["_law_tin", "_law_net_here"] sp__law_any_tree) (c__law_of : Cal P w K mg base CX0 2 "_law_of" s__law_of ["_law_tin", "_law_goods_so"] sp__law_of) (c__law_same : Cal P w K mg base CX0 6 "_law_same" s__law_same ["_law_got", "_law_due"] sp__law_same) (c__law_way : Cal P w K mg base CX0 1 "_law_way" s__law_way ["_law_net_here", "_law_boughs", "_law_spot", "_law_goal_so"] sp__law_way) (c_way : Cal P w K mg base CX0 7 "way" s_way ["web", "tree", "place", "other"] sp_way) (c__law_take : Cal P w K mg base CX0 1 "_law_take" s__law_take ["_law_tin", "_law_below_so"] sp__law_take) (c__law_walked : Cal P w K mg base CX0 1 "_law_walked" s__law_walked ["_law_boughs", "_law_spot"] sp__law_walked) (c_ends_of : Cal P w K mg base CX0 7 "ends_of" s_ends_of ["web", "tree"] sp_ends_of) (c__law_heard : Cal P w K mg base CX0 8 "_law_heard" s__law_heard ["_law_door", "_law_net_here", "_law_boughs", "_law_one", "_law_two"] sp__law_heard) (c__law_hangs : Cal P w K mg base CX0 2 "_law_hangs" s__law_hangs ["_law_net_here", "_law_bonds_so"] sp__law_hangs) (c_is_tree : Cal P w K mg base CX0 7 "is_tree" s_is_tree ["web", "thing"] sp_is_tree) (d : Dfx K mg "_law_right" s__law_right ["_law_tin"]) : Cal P w K mg base CX0 9 "_law_right" s__law_right ["_law_tin"] sp__law_right := d.cal fun f fd F => by
  refine fnT F sc__law_right (fun ds h => by obtain ⟨_, rfl, _⟩ := h; rfl) (by decide) fun cdv A outer s H E hr => ?_
  have hu64 := hr.units
  have hu65 := hu65_of hr
  have hu := hu_of hr
  have hu0 := hr.units0
  obtain ⟨f__law_net, fd__law_net, F__law_net, m__law_net, b__law_net, ok__law_net⟩ := c__law_net
  obtain ⟨f__law_lists, fd__law_lists, F__law_lists, m__law_lists, b__law_lists, ok__law_lists⟩ := c__law_lists
  obtain ⟨f__law_any_tree, fd__law_any_tree, F__law_any_tree, m__law_any_tree, b__law_any_tree, ok__law_any_tree⟩ := c__law_any_tree
  obtain ⟨f__law_of, fd__law_of, F__law_of, m__law_of, b__law_of, ok__law_of⟩ := c__law_of
  obtain ⟨f__law_same, fd__law_same, F__law_same, m__law_same, b__law_same, ok__law_same⟩ := c__law_same
  obtain ⟨f__law_way, fd__law_way, F__law_way, m__law_way, b__law_way, ok__law_way⟩ := c__law_way
  obtain ⟨f_way, fd_way, F_way, m_way, b_way, ok_way⟩ := c_way
  obtain ⟨f__law_take, fd__law_take, F__law_take, m__law_take, b__law_take, ok__law_take⟩ := c__law_take
  obtain ⟨f__law_walked, fd__law_walked, F__law_walked, m__law_walked, b__law_walked, ok__law_walked⟩ := c__law_walked
  obtain ⟨f_ends_of, fd_ends_of, F_ends_of, m_ends_of, b_ends_of, ok_ends_of⟩ := c_ends_of
  obtain ⟨f__law_heard, fd__law_heard, F__law_heard, m__law_heard, b__law_heard, ok__law_heard⟩ := c__law_heard
  obtain ⟨f__law_hangs, fd__law_hangs, F__law_hangs, m__law_hangs, b__law_hangs, ok__law_hangs⟩ := c__law_hangs
  obtain ⟨f_is_tree, fd_is_tree, F_is_tree, m_is_tree, b_is_tree, ok_is_tree⟩ := c_is_tree
  have nd := sc__law_right.nd
  refine ⟨_, (pss_cons (ps_set (i := 1) nd rfl (Or.inl rfl) (pe_call ok__law_net (hr.mono (by decide)) rfl m__law_net F__law_net.kp b__law_net .nil pass0 (pa_cons (pv 0) (pa_cons pe_int pa_nil))))
    (pss_cons (ps_asg (pe_tup (pa_cons (pe_call ok__law_any_tree (hr.mono (by decide)) rfl m__law_any_tree F__law_any_tree.kp b__law_any_tree .nil pass0 (pa_cons (pv 0) (pa_cons (pv 1) pa_nil))) (pa_cons (pe_call ok__law_lists (hr.mono (by decide)) rfl m__law_lists F__law_lists.kp b__law_lists .nil pass0 (pa_cons (pv 1) pa_nil)) pa_nil))) (k_tup (n := 2) K rfl rfl (pgs_cons (pg_name (i := 9) nd rfl (by first | exact Or.inl rfl | exact Or.inr rfl)) (pgs_cons (pg_name (i := 10) nd rfl (by first | exact Or.inl rfl | exact Or.inr rfl)) pgs_nil))))
    (pss_cons (ps_set (i := 2) nd rfl (Or.inl rfl) (pe_op op_cat (pe_lc (own := [("_law_own", 16)]) rfl nd (pi_range1 rfl B0.range (pa_cons (pe_ix (k_ixT K rfl) (pv 1) pe_int (fun _ _ => rfl)) pa_nil)) (blkOk_by (N := ["_law_tin", "_law_net_here", "_law_spots_so", "_law_lap", "_law_rest_so", "_law_due", "_law_lone_so", "_law_put_so", "_law_later_so", "_law_boughs", "_law_soft", "_law_out_so", "_law_half", "_law_close_so", "_law_one", "_law_two", "_law_own", "_law_bond"]) (sc := defScope s__law_right) (own := [("_law_own", 16)]) (by decide +kernel)) (fun _ _ _ _ _ => (pg_name (i := 16) nd rfl (by first | exact Or.inl rfl | exact Or.inr rfl))) (fun _ _ _ _ _ => pts_nil) (fun _ _ _ _ _ => (pe_tup (pa_cons pe_int (pa_cons (pv 16) pa_nil))))) (pe_lc (own := [("_law_own", 16)]) rfl nd (pi_range1 rfl B0.range (pa_cons (pe_ix (k_ixT K rfl) (pv 1) pe_int (fun _ _ => rfl)) pa_nil)) (blkOk_by (N := ["_law_tin", "_law_net_here", "_law_spots_so", "_law_lap", "_law_rest_so", "_law_due", "_law_lone_so", "_law_put_so", "_law_later_so", "_law_boughs", "_law_soft", "_law_out_so", "_law_half", "_law_close_so", "_law_one", "_law_two", "_law_own", "_law_bond"]) (sc := defScope s__law_right) (own := [("_law_own", 16)]) (by decide +kernel)) (fun _ _ _ _ _ => (pg_name (i := 16) nd rfl (by first | exact Or.inl rfl | exact Or.inr rfl))) (fun _ _ _ _ _ => pts_nil) (fun _ _ _ _ _ => (pe_tup (pa_cons pe_int (pa_cons (pv 16) pa_nil)))))))
    (pss_cons (ps_for PassesOwn.never rfl (pi_range1 rfl B0.range (pa_cons pe_int pa_nil)) (pg_name (i := 3) nd rfl (by first | exact Or.inl rfl | exact Or.inr rfl)) (pss_cons (ps_par (i := 14) (j := 15) rfl nd rfl rfl (by decide) rfl rfl (pa_cons (pe_call ok__law_of (hr.mono (by decide)) rfl m__law_of F__law_of.kp b__law_of .nil pass0 (pa_cons (pv 0) (pa_cons (pv 2) pa_nil))) (pa_cons (pe_call ok__law_of (hr.mono (by decide)) rfl m__law_of F__law_of.kp b__law_of .nil pass0 (pa_cons (pv 0) (pa_cons (pv 2) pa_nil))) pa_nil)) rfl)
    (pss_one (ps_if (pt_not (pt_val (pe_call ok__law_same (hr.mono (by decide)) rfl m__law_same F__law_same.kp b__law_same .nil pass0 (pa_cons (pe_call ok_way (hr.mono (by decide)) rfl m_way F_way.kp b_way .nil pass0 (pa_cons (pv 10) (pa_cons (pe_callTy (k_list K rfl) rfl B0.list (by decide +kernel) (pa_cons (pv 9) pa_nil)) (pa_cons (pe_callTy (k_list K rfl) rfl B0.list (by decide +kernel) (pa_cons (pv 14) pa_nil)) (pa_cons (pv 15) pa_nil))))) (pa_cons (pe_call ok__law_way (hr.mono (by decide)) rfl m__law_way F__law_way.kp b__law_way .nil pass0 (pa_cons (pv 1) (pa_cons (pv 9) (pa_cons (pv 14) (pa_cons (pv 15) pa_nil))))) pa_nil))))) (pss_one (ps_ret pe_bl)) pss_nil))))
    (pss_cons (ps_asg (pe_tup (pa_cons (pe_call ok__law_of (hr.mono (by decide)) rfl m__law_of F__law_of.kp b__law_of .nil pass0 (pa_cons (pv 0) (pa_cons (pe_callTy (k_list K rfl) rfl B0.list (by decide +kernel) (pa_cons (pe_ix (k_ixT K rfl) (pv 1) pe_int (fun _ _ => rfl)) pa_nil)) pa_nil))) (pa_cons (pe_call ok__law_take (hr.mono (by decide)) rfl m__law_take F__law_take.kp b__law_take .nil pass0 (pa_cons (pv 0) (pa_cons pe_int pa_nil))) pa_nil))) (k_tup (n := 2) K rfl rfl (pgs_cons (pg_name (i := 11) nd rfl (by first | exact Or.inl rfl | exact Or.inr rfl)) (pgs_cons (pg_name (i := 12) nd rfl (by first | exact Or.inl rfl | exact Or.inr rfl)) pgs_nil))))
    (pss_cons (ps_set (i := 4) nd rfl (Or.inl rfl) (pe_callTy (k_tuple K rfl) rfl B0.tuple (by decide +kernel) (pa_cons (pe_lc (own := [("_law_own", 16)]) rfl nd (k_iT K rfl (pv 9)) (blkOk_by (N := ["_law_tin", "_law_net_here", "_law_spots_so", "_law_lap", "_law_rest_so", "_law_due", "_law_lone_so", "_law_put_so", "_law_later_so", "_law_boughs", "_law_soft", "_law_out_so", "_law_half", "_law_close_so", "_law_one", "_law_two", "_law_own", "_law_bond"]) (sc := defScope s__law_right) (own := [("_law_own", 16)]) (by decide +kernel)) (fun _ _ _ _ _ => (pg_name (i := 16) nd rfl (by first | exact Or.inl rfl | exact Or.inr rfl))) (fun _ _ _ _ _ => pts_one (pt_cmpR (k_neD K rfl hu64) (pv 16) (pv 11) (nomark _))) (fun _ _ _ _ _ => (pv 16))) pa_nil)))
    (pss_cons (ps_set (i := 5) nd rfl (Or.inl rfl) (pe_lst (pa_cons pe_str (pa_cons pe_bl pa_nil))))
    (pss_cons (ps_if (pt_cmpR (k_inDT K rfl hu65) (pv 11) (pv 9) rfl) (pss_one (ps_set (i := 5) nd rfl (Or.inl rfl) (pe_call ok__law_walked (hr.mono (by decide)) rfl m__law_walked F__law_walked.kp b__law_walked .nil pass0 (pa_cons (pv 4) (pa_cons (pe_tup (pa_cons (pv 12) (pa_cons (pe_ix (k_ixT K rfl) (pv 11) (pv 12) (fun _ _ => rfl)) pa_nil))) pa_nil))))) pss_nil)
    (pss_cons (ps_setLc (i := 6) (own := [("_law_own", 16)]) rfl nd rfl rfl (sw_true rfl rfl rfl (by decide +kernel)) (k_iL K rfl (pv 2)) (blkOk_by (N := ["_law_tin", "_law_net_here", "_law_spots_so", "_law_lap", "_law_rest_so", "_law_due", "_law_lone_so", "_law_put_so", "_law_later_so", "_law_boughs", "_law_soft", "_law_out_so", "_law_half", "_law_close_so", "_law_one", "_law_two", "_law_own", "_law_bond"]) (sc := defScope s__law_right) (own := [("_law_own", 16)]) (by decide +kernel)) (fun _ _ _ _ _ => (pg_name (i := 16) nd rfl (by first | exact Or.inl rfl | exact Or.inr rfl))) (fun _ _ _ _ _ => pts_one (pt_cmpR (k_eqD K rfl hu64) (pe_callB (k_len K rfl) rfl B0.len (by decide +kernel) (pa_cons (pe_lc (own := [("_law_bond", 17)]) rfl nd (k_iT K rfl (pv 9)) (blkOk_by (N := ["_law_tin", "_law_net_here", "_law_spots_so", "_law_lap", "_law_rest_so", "_law_due", "_law_lone_so", "_law_put_so", "_law_later_so", "_law_boughs", "_law_soft", "_law_out_so", "_law_half", "_law_close_so", "_law_one", "_law_two", "_law_own", "_law_bond"]) (sc := relS _ (defScope s__law_right)) (own := [("_law_bond", 17)]) (by decide +kernel)) (fun _ _ _ _ _ => (pg_name (i := 17) nd rfl (by first | exact Or.inl rfl | exact Or.inr rfl))) (fun _ _ _ _ _ => pts_one (pt_cmpR (k_eqD K rfl hu64) (pe_ix (k_ixT K rfl) (pv 17) (pe_ix (k_ixT K rfl) (pv 16) pe_int (fun _ _ => rfl)) (fun _ _ => rfl)) (pe_ix (k_ixT K rfl) (pv 16) pe_int (fun _ _ => rfl)) (nomark _))) (fun _ _ _ _ _ => pe_int)) pa_nil)) pe_int (nomark _))) (fun _ _ _ _ _ => (pv 16)))
    (pss_cons (ps_if (pt_not (pt_val (pe_call ok__law_same (hr.mono (by decide)) rfl m__law_same F__law_same.kp b__law_same .nil pass0 (pa_cons (pe_lst (pa_cons (pe_call ok__law_heard (hr.mono (by decide)) rfl m__law_heard F__law_heard.kp b__law_heard .nil pass0 (pa_cons pe_int (pa_cons (pv 10) (pa_cons (pe_callTy (k_list K rfl) rfl B0.list (by decide +kernel) (pa_cons (pv 9) pa_nil)) (pa_cons (pe_callTy (k_list K rfl) rfl B0.list (by decide +kernel) (pa_cons (pv 11) pa_nil)) (pa_cons (pv 12) pa_nil)))))) (pa_cons (pe_call ok_ends_of (hr.mono (by decide)) rfl m_ends_of F_ends_of.kp b_ends_of .nil pass0 (pa_cons (pv 1) (pa_cons (pe_call ok__law_lists (hr.mono (by decide)) rfl m__law_lists F__law_lists.kp b__law_lists .nil pass0 (pa_cons (pv 9) pa_nil)) pa_nil))) pa_nil))) (pa_cons (pe_lst (pa_cons (pv 5) (pa_cons (pe_callTy (k_tuple K rfl) rfl B0.tuple (by decide +kernel) (pa_cons (pv 6) pa_nil)) pa_nil))) pa_nil))))) (pss_one (ps_ret pe_bl)) pss_nil)
    (pss_cons (ps_set (i := 7) nd rfl (Or.inl rfl) (pe_call ok__law_of (hr.mono (by decide)) rfl m__law_of F__law_of.kp b__law_of .nil pass0 (pa_cons (pv 0) (pa_cons (pe_callTy (k_list K rfl) rfl B0.list (by decide +kernel) (pa_cons (pe_ix (k_ixT K rfl) (pv 1) pe_int (fun _ _ => rfl)) pa_nil)) pa_nil))))
    (pss_cons (ps_par (i := 13) (j := 5) rfl nd rfl rfl (by decide) rfl rfl (pa_cons (pe_lst (pa_cons pe_str (pa_cons pe_bl pa_nil))) (pa_cons (pe_lst (pa_cons pe_str (pa_cons pe_bl pa_nil))) pa_nil)) rfl)
    (pss_cons (ps_set (i := 8) nd rfl (Or.inl rfl) (pe_callTy (k_tuple K rfl) rfl B0.tuple (by decide +kernel) (pa_cons (pe_callB (cr_sortedT rfl) rfl B0.sorted (by decide +kernel) (pa_cons (pe_callTy (cr_setOfTT rfl hu64) rfl B0.set (by decide +kernel) (pa_cons (pe_op (k_catA K rfl) (pv 4) (pe_tup (pa_cons (pv 7) pa_nil))) pa_nil)) pa_nil)) pa_nil)))
    (pss_cons (ps_if (pt_cmpR (k_notInDT K rfl hu65) (pv 7) (pv 9) rfl) (pss_cons (ps_set (i := 13) nd rfl (Or.inl rfl) (pe_call ok__law_way (hr.mono (by decide)) rfl m__law_way F__law_way.kp b__law_way .nil pass0 (pa_cons (pv 1) (pa_cons (pv 9) (pa_cons (pe_tup (pa_cons pe_int (pa_cons (pe_ix (k_ixT K rfl) (pv 7) pe_int (fun _ _ => rfl)) pa_nil))) (pa_cons (pe_tup (pa_cons pe_int (pa_cons (pe_ix (k_ixT K rfl) (pv 7) pe_int (fun _ _ => rfl)) pa_nil))) pa_nil))))))
    (pss_one (ps_if (PW.pt (pw_and (pt_cmpR (k_inDT K rfl hu65) (pv 11) (pv 9) rfl) (pw_and1 (pt_val (pe_call ok__law_hangs (hr.mono (by decide)) rfl m__law_hangs F__law_hangs.kp b__law_hangs .nil pass0 (pa_cons (pv 1) (pa_cons (pv 8) pa_nil))))))) (pss_one (ps_set (i := 5) nd rfl (Or.inl rfl) (pv 8))) pss_nil))) pss_nil)
    (pss_cons (ps_if (pt_not (pt_val (pe_call ok__law_same (hr.mono (by decide)) rfl m__law_same F__law_same.kp b__law_same .nil pass0 (pa_cons (pe_lst (pa_cons (pe_call ok__law_heard (hr.mono (by decide)) rfl m__law_heard F__law_heard.kp b__law_heard .nil pass0 (pa_cons pe_int (pa_cons (pv 10) (pa_cons (pv 9) (pa_cons (pe_callTy (k_list K rfl) rfl B0.list (by decide +kernel) (pa_cons (pv 7) pa_nil)) (pa_cons pe_int pa_nil)))))) (pa_cons (pe_call ok__law_heard (hr.mono (by decide)) rfl m__law_heard F__law_heard.kp b__law_heard .nil pass0 (pa_cons pe_int (pa_cons (pv 10) (pa_cons (pe_call ok__law_lists (hr.mono (by decide)) rfl m__law_lists F__law_lists.kp b__law_lists .nil pass0 (pa_cons (pv 9) pa_nil)) (pa_cons (pv 7) (pa_cons (pe_callTy (k_list K rfl) rfl B0.list (by decide +kernel) (pa_cons (pv 11) pa_nil)) pa_nil)))))) pa_nil))) (pa_cons (pe_lst (pa_cons (pv 13) (pa_cons (pv 5) pa_nil))) pa_nil))))) (pss_one (ps_ret pe_bl)) pss_nil)
    (pss_cons (ps_if (pt_cmpR (k_neD K rfl hu64) (pv 5) (pv 8) (nomark _)) (pss_one (ps_ret (pe_or (pe_cmpR (k_inDT K rfl hu65) (pv 7) (pv 9) rfl) (pe_one (pe_cmpR (k_notInDT K rfl hu65) (pv 11) (pv 13) rfl))))) pss_nil)
    (pss_one (ps_ret (pe_and (pe_cmpR (k_inDT K rfl hu65) (pv 11) (pv 13) rfl) (pe_one (pe_call ok__law_same (hr.mono (by decide)) rfl m__law_same F__law_same.kp b__law_same .nil pass0 (pa_cons (pe_lst (pa_cons (pe_call ok_is_tree (hr.mono (by decide)) rfl m_is_tree F_is_tree.kp b_is_tree .nil pass0 (pa_cons (pv 10) (pa_cons (pv 5) pa_nil))) (pa_cons (pe_call ok__law_heard (hr.mono (by decide)) rfl m__law_heard F__law_heard.kp b__law_heard .nil pass0 (pa_cons pe_int (pa_cons (pv 1) (pa_cons (pv 5) (pa_cons (pv 11) (pa_cons (pv 7) pa_nil)))))) pa_nil))) (pa_cons (pe_lst (pa_cons pe_bl (pa_cons (pv 9) pa_nil))) pa_nil))))))))))))))))))))))), ?_⟩
  rintro B ds n0 _ ⟨_, rfl, _⟩ hn0
  refine ht_seq (ht_setD (xd_callT rfl (ed_cons ev_int ed_nil) ⟨5, rfl, rfl⟩ (by omega) fun d ⟨m, n, ts, e, hw, hm5, hn5, hz⟩ => ?_))
  subst e
  have m1 := hw.m1
  have n1 := hw.n1
  have mn := hw.mn
  have hz1 : ts.length ≤ 1000 := by omega
  have o1 : okD 4 (dN m n ts) := okD_net hz1
  have o2 : okD 4 (lstD (dN m n ts)) := okD_lst o1
  have t1 : tupD (dN m n ts) = dN m n ts := tupD_net m n ts
  have t2 : tupD (lstD (dN m n ts)) = dN m n ts := by rw [tup_lst]; exact t1
  refine ht_seq (ht_asgD (js := [9, 10]) (xd_tup (xa_cons (R1 := fun Γ1 d => ∃ us, OkT m n ts us ∧ d = dT us ∧ Γ1 = [.m (.tin (n0 + 264)), .d (dN m n ts), .un, .un, .un, .un, .un, .un, .un, .un, .un, .un, .un, .un, .un, .un, .un, .un]) (xd_callT rfl (ed_cons (ev_var rfl) ed_nil) ⟨(m, n, ts), rfl, hw, by show ts.length < 64; omega⟩ (by omega) fun d ⟨x, us, ex, ed, ok⟩ => ?_) fun Γ1 d ⟨us, ok, e1, e2⟩ => ?_)))
  · obtain ⟨m', n', ts'⟩ := x
    dsimp only at ex ok
    injection ex with ex _
    injection ex with ex
    injection ex with e1 ex
    injection ex with e2 ex
    injection ex with e3 _
    injection e1 with e1
    injection e2 with e2
    injection e3 with e3
    subst e1 e2
    have e3 : ts = ts' := by
      have z : ∀ (a b : List P2), a.map dP = b.map dP → a = b := by
        intro a
        induction a with
        | nil => intro b h; cases b with
          | nil => rfl
          | cons => cases h
        | cons x a ih => intro b h; cases b with
          | nil => cases h
          | cons y b =>
            injection h with h1 h2
            injection h1 with h1
            injection h1 with h1 h3
            injection h3 with h3 _
            injection h1 with h1
            injection h3 with h3
            rw [ih b h2, Prod.ext h1 h3]
      exact z _ _ e3
    subst e3
    exact ⟨us, ok, ed, rfl⟩
  subst e1 e2
  have ul := ok.l
  have hu : us.length ≤ 62 := by omega
  have hu1 : us.length ≤ 1000 := by omega
  have hc : AllCon m n us := (hangs_iff m1 (by omega) ok.r).mp ok.h
  have nd := ok.s.nodup
  have p00 : PlOk m n (0, 0) := .inl ⟨rfl, Int.le_refl 0, by dsimp only; omega⟩
  have wt : ∀ d1 d2, okD 4 d1 → tupD d1 = dN m n ts → okD 4 d2 → tupD d2 = dT us → WT ((m, n, ts), us) d1 d2 := fun d1 d2 a b c d => ⟨a, b, hw, c, d, ok⟩
  have ub := okD_prs 1 hu1
  have ubl := okD_prsL 1 hu1
  refine xa_cons (xd_of (ev_callR (ed_cons (ev_var rfl) ed_nil) (dN m n ts) rfl o1) (R := fun Γ1 d => d = lstD (dN m n ts) ∧ Γ1 = [.m (.tin (n0 + 264)), .d (dN m n ts), .un, .un, .un, .un, .un, .un, .un, .un, .un, .un, .un, .un, .un, .un, .un, .un]) ⟨rfl, rfl⟩) fun Γ1 d ⟨e1, e2⟩ => ?_
  subst e1 e2
  refine xa_nil ⟨by show 2 ≤ 100000; decide, _, eg_tup2, ?_⟩
  refine ht_seq (ht_set' (e := .d (dL (spots m n))) (ev_op (ev_lcM (xs := List.range m.toNat) (c := fun (i : Nat) => PyData.int ((0 : Int) + i)) (fun (i : Nat) => dP ((0 : Int), (0 : Int) + i)) (ei_rng1 (n := m) (ed_cons (ev_op (ev_var rfl) ev_int ix0) ed_nil) (by omega) (by omega)) (hv1 rfl) hj1 (by rw [List.length_range]; omega) fun i _ => ⟨_, eg_name, ev_tupD (ds := [.int 0, .int (0 + i)]) (ed_cons ev_int (ed_cons (ev_var rfl) ed_nil)) (by show 2 ≤ 100000; decide)⟩)
    (ev_lcM (xs := List.range n.toNat) (c := fun (i : Nat) => PyData.int ((0 : Int) + i)) (fun (i : Nat) => dP ((1 : Int), (0 : Int) + i)) (ei_rng1 (n := n) (ed_cons (ev_op (ev_var rfl) ev_int ix1) ed_nil) (by omega) (by omega)) (hv1 rfl) hj1 (by rw [List.length_range]; omega) fun i _ => ⟨_, eg_name, ev_tupD (ds := [.int 1, .int (0 + i)]) (ed_cons ev_int (ed_cons (ev_var rfl) ed_nil)) (by show 2 ≤ 100000; decide)⟩) (ro_cat (by simp; omega))) (congrArg En.d (spots_eq m n)) ?_)
  have sl := spots_length (m := m) (n := n)
  have sne : (spots m n).map dP ≠ [] := fun z => by
    have := List.map_eq_nil_iff.mp z
    rw [this] at sl
    simp at sl
    omega
  have lw : ∀ p q, PlOk m n p → PlOk m n q → (wayOf us p q).length ≤ 1000 := fun p q a b => by
    have := ((ok.wd a).path (hc p q a b)).2.2.2
    omega
  refine ht_seq (ht_for (fun i Γ => ∃ (c : Nat) (e3 e14 e15 : En), c ≤ n0 + 264 + 2 * i ∧ Γ = [.m (.tin c), .d (dN m n ts), .d (dL (spots m n)), e3, .un, .un, .un, .un, .un, .d (dT us), .d (lstD (dN m n ts)), .un, .un, .un, e14, e15, .un, .un]) (ei_rng1 (n := 2) (ed_cons ev_int ed_nil) (by decide) (by decide)) ⟨_, _, _, _, Nat.le_refl _, rfl⟩ (fun i x Γ hx ⟨c, e3, e14, e15, hcc, e⟩ => ?_) fun Γ ⟨c, e3, e14, e15, hcc, e⟩ => ?_)
  · subst e
    obtain ⟨hi, rfl⟩ := rgD_get hx
    have hi : i < 2 := hi
    refine ⟨_, _, eg_name, ?_⟩
    refine ht_seq (ht_parD (xa_cons (R1 := fun Γ1 d => ∃ p : P2, p ∈ spots m n ∧ d = dP p ∧ Γ1 = [.m (.tin (c + 1)), .d (dN m n ts), .d (dL (spots m n)), .d (.int (0 + i)), .un, .un, .un, .un, .un, .d (dT us), .d (lstD (dN m n ts)), .un, .un, .un, e14, e15, .un, .un]) (x_of B0 rfl (ed_cons (ev_var rfl) ed_nil) sne (by rw [List.length_map]; omega) (by omega) fun d hd => ?_) fun Γ1 d ⟨p, hp, e1, e2⟩ => ?_))
    · obtain ⟨p, hp, e⟩ := List.mem_map.mp hd
      exact ⟨p, hp, e.symm, rfl⟩
    subst e1 e2
    refine xa_cons (R1 := fun Γ1 d => ∃ p : P2, p ∈ spots m n ∧ d = dP p ∧ Γ1 = [.m (.tin (c + 1 + 1)), .d (dN m n ts), .d (dL (spots m n)), .d (.int (0 + i)), .un, .un, .un, .un, .un, .d (dT us), .d (lstD (dN m n ts)), .un, .un, .un, e14, e15, .un, .un]) (x_of B0 rfl (ed_cons (ev_var rfl) ed_nil) sne (by rw [List.length_map]; omega) (by omega) fun d hd => ?_) fun Γ1 d ⟨q, hq, e1, e2⟩ => ?_
    · obtain ⟨p, hp, e⟩ := List.mem_map.mp hd
      exact ⟨p, hp, e.symm, rfl⟩
    subst e1 e2
    refine xa_nil ⟨_, _, rfl, ?_⟩
    have hp' := mem_spots.mp hp
    have hq' := mem_spots.mp hq
    refine ht_if (b := false) (eb_is (eb_not (eb_B (ev_same B0 (d := dT (wayOf us p q)) (ev_callR (ed_cons (ev_var rfl) (ed_cons (ev_cbD (ed_cons (ev_var rfl) ed_nil) rc_listT) (ed_cons (ev_cbD (ed_cons (ev_var rfl) ed_nil) rc_listT) (ed_cons (ev_var rfl) ed_nil)))) (((m, n, ts), us), (lstD (dN m n ts), dL us), (lP p, p), dP q, q) rfl ⟨wt _ _ o2 t2 ubl (tupD_prsL us), ⟨okD_lp 2 p, rfl, hp'⟩, ⟨okD_pr 2 q, rfl, hq'⟩, hc p q hp' hq'⟩)
      (ev_callR (ed_cons (ev_var rfl) (ed_cons (ev_var rfl) (ed_cons (ev_var rfl) (ed_cons (ev_var rfl) ed_nil)))) ((m, n, ts), us, p, q) rfl ⟨ok.wd hp', hc p q hp' hq'⟩) (okS_prs 3 (lw p q hp' hq'))))) rfl) (fun z => nomatch z) fun _ => ht_next ?_
    exact ⟨c + 1 + 1, _, _, _, by omega, rfl⟩
  subst e
  have hcc : c ≤ n0 + 268 := hcc
  have tne : ts.map dP ≠ [] := fun z => by
    have := List.map_eq_nil_iff.mp z
    have hl := hw.l
    rw [this] at hl
    simp at hl
    omega
  refine ht_seq (ht_asgD (js := [11, 12]) (xd_tup (xa_cons (R1 := fun Γ1 d => ∃ p : P2, p ∈ ts ∧ d = dP p ∧ Γ1 = [.m (.tin (c + 1)), .d (dN m n ts), .d (dL (spots m n)), e3, .un, .un, .un, .un, .un, .d (dT us), .d (lstD (dN m n ts)), .un, .un, .un, e14, e15, .un, .un]) (x_of B0 rfl (ed_cons (ev_cbD (ed_cons (ev_op (ev_var rfl) ev_int ix2) ed_nil) rc_listT) ed_nil) tne (by rw [List.length_map]; omega) (by omega) fun d hd => ?_) fun Γ1 d ⟨out, ho, e1, e2⟩ => ?_)))
  · obtain ⟨p, hp, e⟩ := List.mem_map.mp hd
    exact ⟨p, hp, e.symm, rfl⟩
  subst e1 e2
  refine xa_cons (R1 := fun Γ1 d => ∃ s : Int, (s = 0 ∨ s = 1) ∧ d = .int s ∧ Γ1 = [.m (.tin (c + 1 + 1)), .d (dN m n ts), .d (dL (spots m n)), e3, .un, .un, .un, .un, .un, .d (dT us), .d (lstD (dN m n ts)), .un, .un, .un, e14, e15, .un, .un]) (x_take B0 rfl (ed_cons ev_int ed_nil) (by decide) (by decide) (by omega) fun z h0 h1 => ⟨z, by omega, rfl, rfl⟩) fun Γ1 d ⟨half, hh, e1, e2⟩ => ?_
  subst e1 e2
  refine xa_nil ⟨by show 2 ≤ 100000; decide, _, eg_tup2, ?_⟩
  have ro := hw.r out ho
  have hps : PlOk m n (half, sideP out half) := hh.elim (fun z => by subst z; exact (tie_pl ro).1) fun z => by subst z; exact (tie_pl ro).2
  refine ht_seq (ht_set' (e := .d (dT (noP us out))) (ev_cbD (ed_cons (ev_lcF (xs := us) (c := dP) (fun t => !decide (t = out)) dP (ei_tup (ev_var rfl)) (hv1 rfl) hj1 (by omega) fun t ht => ⟨_, eg_name, eb_test ((ev_op (ev_var rfl) (ev_var rfl) (ro_neD (shaped_pair t) (shaped_pair out))).is (by rw [eqv_pair])), fun _ => ev_var rfl⟩) ed_nil) rc_tupL) rfl ?_)
  refine ht_seq (ht_set (ev_cannot B0) ?_)
  have hwn : Wd (noP us out) m n (half, sideP out half) := ⟨mn, by omega, by omega, fun t ht => ok.r t (mem_noP.mp ht).1, Nat.le_trans (List.length_filter_le _ _) hu1, hps⟩
  refine ht_seq (ht_imp (N' := fun Γ => Γ = [.m (.tin (c + 1 + 1)), .d (dN m n ts), .d (dL (spots m n)), e3, .d (dT (noP us out)), .d (heardD (Ask.res us (.part out half))), .un, .un, .un, .d (dT us), .d (lstD (dN m n ts)), .d (dP out), .d (.int half), .un, e14, e15, .un, .un]) (ht_if (b := decide (out ∈ us)) (eb_test ((ev_op (ev_var rfl) (ev_var rfl) (ro_inT (shaped_pair out) (shaped_pairs us))).is (by rw [any_pair]))) (fun hb => ?_) fun hb => ?_) ?_)
  · have hb := of_decide_eq_true hb
    rw [res_part, if_pos hb]
    refine ht_set' (ev_callR (ed_cons (ev_var rfl) (ed_cons (ev_tupD (ds := [.int half, .int (sideP out half)]) (ed_cons (ev_var rfl) (ed_cons (ev_op (ev_var rfl) (ev_var rfl) (ro_ixT (side_nn hh) (sideP_get hh))) ed_nil)) (by show 2 ≤ 100000; decide)) ed_nil)) ((m, n), noP us out, (half, sideP out half)) rfl hwn) ?_ rfl
    rw [walked_eq hwn]; rfl
  · have hb := of_decide_eq_false hb
    rw [res_part, if_neg hb]
    exact ht_next rfl
  rintro Γ rfl
  refine ht_seq (ht_set (e := .d (dL ((spots m n).filter fun p => decide ((us.filter fun t => decide (sideP t p.1 = p.2)).length = 1)))) (ev_lcF (xs := spots m n) (c := dP) (fun p => decide ((us.filter fun t => decide (sideP t p.1 = p.2)).length = 1)) dP (ei_list (ev_var rfl)) (hv1 rfl) hj1 (by omega) fun p hp => ⟨_, eg_name, ?_, fun _ => ev_var rfl⟩) ?_)
  · have sd := (mem_spots.mp hp).side
    refine eb_test ((ev_op (ev_cbD (ed_cons (ev_lcF (xs := us) (c := dP) (fun t => decide (sideP t p.1 = p.2)) (fun _ => PyData.int 1) (ei_tup (ev_var rfl)) (hv1 rfl) hj1 (by omega) fun t ht => ⟨_, eg_name, eb_test ((ev_op (ev_op (ev_var rfl) (ev_op (ev_var rfl) ev_int ix0) (ro_ixT (side_nn sd) (sideP_get sd))) (ev_op (ev_var rfl) ev_int ix1) (ro_eqD (shaped_int _) (shaped_int _))).is (by rw [eqv_int])), fun _ => ev_int⟩) ed_nil) rc_lenL) ev_int (ro_eqD (shaped_int _) (shaped_int _))).is ?_)
    rw [eqv_int, List.length_map]
    congr 2
    exact decide_eq_decide.mpr ⟨fun z => Int.ofNat.inj z, fun z => congrArg Int.ofNat z⟩
  have hends : endsM us = (spots m n).filter fun p => decide ((us.filter fun t => decide (sideP t p.1 = p.2)).length = 1) := by unfold endsM; rw [spots_keys (ok.wd p00) hc]
  have lpart : ∀ w, Ask.res us (.part out half) = some w → w.length ≤ 1000 := fun w hw' => by
    rw [res_part] at hw'
    split at hw'
    · cases hw'
      unfold partM
      rw [sortP_length]
      have := hwn.bi.length
      simp only [keys, List.length_map]
      exact Nat.le_trans this (by omega)
    · cases hw'
  refine ht_same B0 (d := .list [heardD (Ask.res us (.part out half)), dT ((spots m n).filter fun p => decide ((us.filter fun t => decide (sideP t p.1 = p.2)).length = 1))])
    (ev_lstD (ed_cons (ev_heard B0 (lP out) (.int half) (.part out half) (ed_cons ev_int (ed_cons (ev_var rfl) (ed_cons (ev_cbD (ed_cons (ev_var rfl) ed_nil) rc_listT) (ed_cons (ev_cbD (ed_cons (ev_var rfl) ed_nil) rc_listT) (ed_cons (ev_var rfl) ed_nil))))) (wt _ _ o2 t2 ubl (tupD_prsL us)) hc ⟨⟨okD_lp 2 out, rfl, ho⟩, hh, rfl⟩ rfl)
      (ed_cons ((ev_callR (ed_cons (ev_var rfl) (ed_cons (ev_callR (ed_cons (ev_var rfl) ed_nil) (dT us) rfl ub) ed_nil)) (((m, n, ts), us), dN m n ts, lstD (dT us)) rfl (wt _ _ o1 t1 (okD_lst ub) (by rw [tup_lst]; exact tupD_prs us))).is (by rw [hends])) ed_nil)) (by show 2 ≤ 100000; decide))
    (ev_lstD (ed_cons (ev_var rfl) (ed_cons (ev_cbD (ed_cons (ev_var rfl) ed_nil) rc_tupL) ed_nil)) (by show 2 ≤ 100000; decide)) (okS_two (n := 5) (okS_heard 2 lpart) (okS_prs 2 (Nat.le_trans (List.length_filter_le _ _) (by omega)))) ?_
  refine ht_seq (ht_setD (x_of B0 rfl (ed_cons (ev_cbD (ed_cons (ev_op (ev_var rfl) ev_int ix2) ed_nil) rc_listT) ed_nil) tne (by rw [List.length_map]; omega) (by omega) fun d hd => ?_))
  obtain ⟨put, hput, rfl⟩ := List.mem_map.mp hd
  have rp := hw.r put hput
  have pp0 := (tie_pl rp).1
  have pp1 := (tie_pl rp).2
  refine ht_seq (ht_par (ea_cons (ev_cannot B0) (ea_cons (ev_cannot B0) ea_nil)) ?_)
  have nl : (noP us out).length ≤ us.length := List.length_filter_le _ _
  have bd : ∀ t, InR m n t → BdP t := fun t r => by unfold BdP; omega
  have elat : PyData.tuple ((noP us out).map dP ++ [dP put]) = dT (noP us out ++ [put]) := by show _ = PyData.tuple _; rw [List.map_append]; rfl
  refine ht_seq (ht_set (e := .d (dT (sortP (ddP (noP us out ++ [put]))))) (ev_cbD (ed_cons (ev_sortedSet (ps := noP us out ++ [put]) ((ev_op (ev_var rfl) (ev_tupD (ds := [dP put]) (ed_cons (ev_var rfl) ed_nil) (by show 1 ≤ 100000; decide)) (ro_catT (by rw [List.length_map]; show _ + 1 ≤ _; omega))).is (congrArg En.d elat)) (by rw [List.length_append]; show _ + 1 < _; omega) fun p hp => ?_) ed_nil) rc_tupL) ?_)
  · rcases List.mem_append.mp hp with z | z
    · exact bd p (ok.r p (mem_noP.mp z).1)
    · rw [List.mem_singleton.mp z]; exact bd put rp
  by_cases hpu : put ∈ us
  · refine ht_seq (ht_if (b := false) (eb_test ((ev_op (ev_var rfl) (ev_var rfl) (ro_notInT (shaped_pair put) (shaped_pairs us))).is (by rw [any_pair, decide_eq_true hpu]; rfl))) (fun z => nomatch z) fun _ => ht_next ?_)
    have r1 : heardD (Ask.res us (.close put)) = .list [.str "cannot", .bool true] := by rw [res_close, if_pos hpu]; rfl
    have r2 : heardD (Ask.res us (.change put out)) = .list [.str "cannot", .bool true] := by rw [res_change, if_pos (.inl hpu)]; rfl
    refine ht_same B0 (d := .list [.list [.str "cannot", .bool true], .list [.str "cannot", .bool true]])
      (ev_lstD (ed_cons (ev_heard B0 (lP put) (.int 0) (.close put) (ed_cons ev_int (ed_cons (ev_var rfl) (ed_cons (ev_var rfl) (ed_cons (ev_cbD (ed_cons (ev_var rfl) ed_nil) rc_listT) (ed_cons ev_int ed_nil))))) (wt _ _ o2 t2 ub (tupD_prs us)) hc ⟨okD_lp 2 put, rfl, hput⟩ (by rw [r1]))
        (ed_cons (ev_heard B0 (dP put) (lP out) (.change put out) (ed_cons ev_int (ed_cons (ev_var rfl) (ed_cons (ev_callR (ed_cons (ev_var rfl) ed_nil) (dT us) rfl ub) (ed_cons (ev_var rfl) (ed_cons (ev_cbD (ed_cons (ev_var rfl) ed_nil) rc_listT) ed_nil))))) (wt _ _ o2 t2 (okD_lst ub) (by rw [tup_lst]; exact tupD_prs us)) hc ⟨⟨okD_pr 2 put, rfl, hput⟩, okD_lp 2 out, rfl, ho⟩ r2) ed_nil)) (by show 2 ≤ 100000; decide))
      (ev_lstD (ed_cons (ev_var rfl) (ed_cons (ev_var rfl) ed_nil)) (by show 2 ≤ 100000; decide)) (okS_two (n := 5) (okS_cannot 3) (okS_cannot 3)) ?_
    have shc : SeqAt.shaped (.list [.str "cannot", .bool true]) = true := by decide +kernel
    refine ht_seq (ht_if (b := true) (eb_test ((ev_op (ev_var rfl) (ev_var rfl) (ro_neD shc (shaped_pairs _))).is (by rw [eqv_mixed]; rfl))) (fun _ => ?_) fun z => nomatch z)
    refine ht_ret' (e := .d (.bool true)) (ev_orV (a := true) (b := true) ((ev_op (ev_var rfl) (ev_var rfl) (ro_inT (shaped_pair put) (shaped_pairs us))).is (by rw [any_pair, decide_eq_true hpu])) fun z => nomatch z) rfl ⟨_, _, rfl, rfl, rfl, by omega⟩
  · have hwp : Wd us m n (0, put.1) := ok.wd pp0
    have hnd : (noP us out ++ [put]).Nodup := List.nodup_append.mpr ⟨noP_nodup nd, by simp, fun a ha b hb e => hpu (by rw [List.mem_singleton.mp hb] at e; rw [← e]; exact (mem_noP.mp ha).1)⟩
    have hV : ∀ t ∈ noP us out ++ [put], InR m n t := fun t ht => by
      rcases List.mem_append.mp ht with z | z
      · exact ok.r t (mem_noP.mp z).1
      · rw [List.mem_singleton.mp z]; exact rp
    rw [ddP_of_nodup hnd]
    have hS : ∀ t ∈ sortP (noP us out ++ [put]), InR m n t := fun t ht => hV t (mem_sortP.mp ht)
    have hg : hangsB m n (sortP (noP us out ++ [put])) = true ↔ AllCon m n (noP us out ++ [put]) := (hangs_iff m1 (by omega) hS).trans ⟨fun h p q a b => (h p q a b).mono fun t ht => mem_sortP.mp ht, fun h p q a b => (h p q a b).mono fun t ht => mem_sortP.mpr ht⟩
    have sw := swap_iff (out := out) m1 n1 mn ok.r rp nd ul hc
    have rcl : Ask.res us (.close put) = some (clM us put) := by rw [res_close, if_neg hpu]
    have sLl : (sortP (noP us out ++ [put])).length ≤ 1000 := by rw [sortP_length, List.length_append]; show _ + 1 ≤ _; omega
    have lcl : (clM us put).length ≤ 1000 := lw _ _ pp0 pp1
    refine ht_seq (ht_imp (N' := fun Γ => Γ = [.m (.tin (c + 1 + 1 + 1)), .d (dN m n ts), .d (dL (spots m n)), e3, .d (dT (noP us out)), .d (heardD (Ask.res us (.change put out))), .d (dL ((spots m n).filter fun p => decide ((us.filter fun t => decide (sideP t p.1 = p.2)).length = 1))), .d (dP put), .d (dT (sortP (noP us out ++ [put]))), .d (dT us), .d (lstD (dN m n ts)), .d (dP out), .d (.int half), .d (dT (clM us put)), e14, e15, .un, .un])
      (ht_if (b := true) (eb_test ((ev_op (ev_var rfl) (ev_var rfl) (ro_notInT (shaped_pair put) (shaped_pairs us))).is (by rw [any_pair, decide_eq_false hpu]; rfl))) (fun _ => ?_) fun z => nomatch z) ?_)
    · refine ht_seq (ht_set (e := .d (dT (clM us put))) (ev_callR (ed_cons (ev_var rfl) (ed_cons (ev_var rfl) (ed_cons (ev_tupD (ds := [.int 0, .int put.1]) (ed_cons ev_int (ed_cons (ev_op (ev_var rfl) ev_int ix0) ed_nil)) (by show 2 ≤ 100000; decide)) (ed_cons (ev_tupD (ds := [.int 1, .int put.2]) (ed_cons ev_int (ed_cons (ev_op (ev_var rfl) ev_int ix1) ed_nil)) (by show 2 ≤ 100000; decide)) ed_nil)))) ((m, n, ts), us, (0, put.1), (1, put.2)) rfl ⟨hwp, hc _ _ pp0 pp1⟩) ?_)
      refine ht_if (b := decide (out ∈ us) && hangsB m n (sortP (noP us out ++ [put]))) (eb_and (eb_test ((ev_op (ev_var rfl) (ev_var rfl) (ro_inT (shaped_pair out) (shaped_pairs us))).is (by rw [any_pair]))) fun _ => eb_B (ev_callR (ed_cons (ev_var rfl) (ed_cons (ev_var rfl) ed_nil)) ((m, n, ts), sortP (noP us out ++ [put])) rfl ⟨m1, n1, mn, sLl, hS⟩)) (fun hb => ?_) fun hb => ?_
      · rw [Bool.and_eq_true, decide_eq_true_eq] at hb
        have hin : out ∈ clM us put := sw.mpr ⟨hb.1, hg.mp hb.2⟩
        have er : Ask.res us (.change put out) = some (sortP (noP us out ++ [put])) := by rw [res_change, if_neg]; rfl; rintro (z | z); exact hpu z; exact z hin
        rw [er]
        exact ht_set (ev_var rfl) rfl
      · have hnin : out ∉ clM us put := fun z => by
          obtain ⟨a, b⟩ := sw.mp z
          rw [decide_eq_true a, hg.mpr b] at hb
          cases hb
        have er : Ask.res us (.change put out) = none := by rw [res_change, if_pos (.inr hnin)]
        rw [er]
        exact ht_next rfl
    rintro Γ rfl
    have lch : ∀ w, Ask.res us (.change put out) = some w → w.length ≤ 1000 := fun w hw' => by
      rw [res_change] at hw'
      split at hw'
      · cases hw'
      · cases hw'; exact sLl
    refine ht_same B0 (d := .list [dT (clM us put), heardD (Ask.res us (.change put out))])
      (ev_lstD (ed_cons (ev_heard B0 (lP put) (.int 0) (.close put) (ed_cons ev_int (ed_cons (ev_var rfl) (ed_cons (ev_var rfl) (ed_cons (ev_cbD (ed_cons (ev_var rfl) ed_nil) rc_listT) (ed_cons ev_int ed_nil))))) (wt _ _ o2 t2 ub (tupD_prs us)) hc ⟨okD_lp 2 put, rfl, hput⟩ (by rw [rcl]; rfl))
        (ed_cons (ev_heard B0 (dP put) (lP out) (.change put out) (ed_cons ev_int (ed_cons (ev_var rfl) (ed_cons (ev_callR (ed_cons (ev_var rfl) ed_nil) (dT us) rfl ub) (ed_cons (ev_var rfl) (ed_cons (ev_cbD (ed_cons (ev_var rfl) ed_nil) rc_listT) ed_nil))))) (wt _ _ o2 t2 (okD_lst ub) (by rw [tup_lst]; exact tupD_prs us)) hc ⟨⟨okD_pr 2 put, rfl, hput⟩, okD_lp 2 out, rfl, ho⟩ rfl) ed_nil)) (by show 2 ≤ 100000; decide))
      (ev_lstD (ed_cons (ev_var rfl) (ed_cons (ev_var rfl) ed_nil)) (by show 2 ≤ 100000; decide)) (okS_two (n := 5) (okS_prs 2 lcl) (okS_heard 2 lch)) ?_
    by_cases hin : out ∈ clM us put
    · have er : Ask.res us (.change put out) = some (sortP (noP us out ++ [put])) := by rw [res_change, if_neg]; rfl; rintro (z | z); exact hpu z; exact z hin
      rw [er]
      obtain ⟨hou, hal⟩ := sw.mp hin
      refine ht_seq (ht_if (b := false) (eb_test ((ev_op (ev_var rfl) (ev_var rfl) (ro_neD (shaped_pairs _) (shaped_pairs _))).is (by rw [eqv_pairs, decide_eq_true rfl]; rfl))) (fun z => nomatch z) fun _ => ht_next ?_)
      have ln := noP_length nd hou
      have ok' : OkT m n ts (sortP (noP us out ++ [put])) := ⟨mn, by omega, by omega, hS, fun t ht => by
        rcases List.mem_append.mp (mem_sortP.mp ht) with z | z
        · exact ok.i t (mem_noP.mp z).1
        · rw [List.mem_singleton.mp z]; exact hput, sortP_slt hnd, by rw [sortP_length, List.length_append]; show ((_ + 1 : Nat) : Int) = _; omega, hg.mpr hal⟩
      have hc' : AllCon m n (sortP (noP us out ++ [put])) := (hangs_iff m1 (by omega) hS).mp ok'.h
      have outn : out ∉ sortP (noP us out ++ [put]) := fun z => by
        rcases List.mem_append.mp (mem_sortP.mp z) with y | y
        · exact (mem_noP.mp y).2 rfl
        · exact hpu (by rw [← List.mem_singleton.mp y]; exact hou)
      have putm : put ∈ sortP (noP us out ++ [put]) := mem_sortP.mpr (List.mem_append_right _ (List.mem_singleton.mpr rfl))
      have mback : ∀ t, t ∈ noP (sortP (noP us out ++ [put])) put ++ [out] ↔ t ∈ us := fun t => by
        rw [List.mem_append, mem_noP, mem_sortP, List.mem_append, mem_noP, List.mem_singleton, List.mem_singleton]
        constructor
        · rintro (⟨z | z, y⟩ | z)
          · exact z.1
          · exact absurd z y
          · rw [z]; exact hou
        · intro z
          by_cases e : t = out
          · exact .inr e
          · exact .inl ⟨.inl ⟨z, e⟩, fun y => hpu (by rw [← y]; exact z)⟩
      have sw' := swap_iff (out := put) (put := out) m1 n1 mn hS ro ok'.s.nodup ok'.l hc'
      have hin' : put ∈ clM (sortP (noP us out ++ [put])) out := sw'.mpr ⟨putm, fun p q a b => (hc p q a b).mono fun t ht => (mback t).mpr ht⟩
      have eback : chM (sortP (noP us out ++ [put])) out put = us := by
        refine sortP_eq ((List.perm_ext_iff_of_nodup nd (List.nodup_append.mpr ⟨noP_nodup ok'.s.nodup, by simp, fun a ha b hb e => by
        have e2 : a = out := e.trans (List.mem_singleton.mp hb)
        subst e2
        exact outn (mem_noP.mp ha).1⟩)).mpr fun t => (mback t).symm) ok.s.le
      have er' : Ask.res (sortP (noP us out ++ [put])) (.change out put) = some us := by rw [res_change, if_neg, eback]; rintro (z | z); exact outn z; exact z hin'
      refine ht_ret' (e := .d (.bool true)) (ev_andV (a := true) (b := true) ((ev_op (ev_var rfl) (ev_var rfl) (ro_inT (shaped_pair out) (shaped_pairs _))).is (by rw [any_pair, decide_eq_true hin])) fun _ => ev_same B0 (d := .list [.bool true, dT us])
        (ev_lstD (ed_cons (ev_callR (ed_cons (ev_var rfl) (ed_cons (ev_var rfl) ed_nil)) ((m, n, ts), lstD (dN m n ts), sortP (noP us out ++ [put])) rfl ⟨o2, t2, hw, ok'⟩)
          (ed_cons (ev_heard B0 (dP out) (dP put) (.change out put) (ed_cons ev_int (ed_cons (ev_var rfl) (ed_cons (ev_var rfl) (ed_cons (ev_var rfl) (ed_cons (ev_var rfl) ed_nil))))) (us := sortP (noP us out ++ [put])) ⟨o1, t1, hw, okD_prs 1 sLl, tupD_prs _, ok'⟩ hc' ⟨⟨okD_pr 2 out, rfl, ho⟩, okD_pr 2 put, rfl, hput⟩ (by rw [er']; rfl)) ed_nil)) (by show 2 ≤ 100000; decide))
        (ev_lstD (ed_cons ev_bl (ed_cons (ev_var rfl) ed_nil)) (by show 2 ≤ 100000; decide)) (okS_two (n := 5) (by trivial) (okS_prs 2 hu1))) rfl ⟨_, _, rfl, rfl, rfl, by omega⟩
    · have er : Ask.res us (.change put out) = none := by rw [res_change, if_pos (.inr hin)]
      rw [er]
      have shc : SeqAt.shaped (.list [.str "cannot", .bool true]) = true := by decide +kernel
      refine ht_seq (ht_if (b := true) (eb_test ((ev_op (ev_var rfl) (ev_var rfl) (ro_neD shc (shaped_pairs _))).is (by rw [eqv_mixed]; rfl))) (fun _ => ?_) fun z => nomatch z)
      refine ht_ret' (e := .d (.bool true)) (ev_orV (a := false) (b := true) ((ev_op (ev_var rfl) (ev_var rfl) (ro_inT (shaped_pair put) (shaped_pairs us))).is (by rw [any_pair, decide_eq_false hpu])) fun _ => (ev_op (ev_var rfl) (ev_var rfl) (ro_notInT (shaped_pair out) (shaped_pairs _))).is (by rw [any_pair, decide_eq_false hin]; rfl)) rfl ⟨_, _, rfl, rfl, rfl, by omega⟩
end
end G

set_option Elab.async false
set_option linter.all false
set_option maxRecDepth 100000
set_option maxHeartbeats 4000000
namespace G
open PySem L2
abbrev s__law_hand_right : Stmt := top 57
theorem sc__law_hand_right : FnScope ["_law_got", "_law_due", "_law_ring_so", "_law_long_so", "_law_house_here", "_law_tree", "_law_none_so", "_law_own"] [] (defScope s__law_hand_right) := ⟨rfl, rfl, rfl, by decide +kernel, rfl, by decide +kernel, by decide +kernel⟩
abbrev s_law : Stmt := top 59
theorem sc_law : FnScope ["_law_script"] ["_law_script"] (defScope s_law) := ⟨rfl, rfl, rfl, by decide +kernel, rfl, by decide +kernel, by decide +kernel⟩
def ringS : List P2 := sortP ringP
def ringT : List P2 := noP ringS (11, 0)
theorem okWh : OkW 3 3 houseP := ⟨by decide, by decide, by decide, by decide, by decide, by decide, by decide, by decide +kernel⟩
theorem okTh : OkT 3 3 houseP houseT := ⟨by decide, by decide, by decide, by decide, by decide, by decide, by decide, by decide +kernel⟩
theorem okWr : OkW 12 12 ringS := ⟨by decide, by decide, by decide, by decide +kernel, by decide +kernel, by decide +kernel, by decide +kernel, by decide +kernel⟩
theorem okTr : OkT 12 12 ringS ringT := ⟨by decide, by decide, by decide, by decide +kernel, by decide +kernel, by decide +kernel, by decide +kernel, by decide +kernel⟩
theorem len_h : houseP.length ≤ 1000 ∧ houseT.length ≤ 1000 := by decide
theorem len_r : ringS.length ≤ 1000 ∧ ringT.length ≤ 1000 := by decide +kernel
theorem wt_h : WT ((3, 3, houseP), houseT) (dN 3 3 houseP) (dT houseT) := ⟨okD_net len_h.1, tupD_net _ _ _, okWh, okD_prs 1 len_h.2, tupD_prs _, okTh⟩
theorem wt_r : WT ((12, 12, ringS), ringT) (dN 12 12 ringS) (dT ringT) := ⟨okD_net len_r.1, tupD_net _ _ _, okWr, okD_prs 1 len_r.2, tupD_prs _, okTr⟩
theorem ac_h : AllCon 3 3 houseT := (hangs_iff (by decide) (by decide) okTh.r).mp okTh.h
theorem ac_r : AllCon 12 12 ringT := (hangs_iff (by decide) (by decide) okTr.r).mp okTr.h
abbrev dC : D := .list [.str "cannot", .bool true]
abbrev g1 : List D := [dT [(1, 1), (2, 1), (2, 2)], dT [(0, 0)], dT [], dT [(2, 2), (2, 1), (1, 1)]]
abbrev g2 : List D := [dT [(0, 1), (1, 0), (1, 2)]]
abbrev g3 : List D := [dT [(0, 0), (1, 0)], dT [(0, 1), (0, 2), (1, 1), (1, 2)], dT [(1, 2)]]
abbrev g4 : List D := [dC]
abbrev g5 : List D := [dT [(1, 1), (0, 1), (0, 0)], dC, dT [(0, 0), (1, 0), (1, 1), (2, 1), (2, 2)]]
abbrev g6 : List D := [dC, dC, dC]
abbrev g7 : List D := [.int 23, .int 23, dT [(0, 11), (1, 0)]]
abbrev g8 : List D := [.int 13]
theorem allS0 {n : Nat} : ∀ d ∈ ([] : List D), okS n d := fun d h => by cases h
theorem allS {n : Nat} {e : D} {ds : List D} (h : okS n e) (k : ∀ d ∈ ds, okS n d) : ∀ d ∈ e :: ds, okS n d := fun d hd => by
  rcases List.mem_cons.mp hd with z | z
  · subst z; exact h
  · exact k d z
theorem okS_all : okS 6 (.list (((((((g1 ++ g2) ++ g3) ++ g4) ++ g5) ++ g6) ++ g7) ++ g8)) := ⟨by decide, (allS (okS_prs 2 (by decide)) (allS (okS_prs 2 (by decide)) (allS (okS_prs 2 (by decide)) (allS (okS_prs 2 (by decide)) (allS (okS_prs 2 (by decide)) (allS (okS_prs 2 (by decide)) (allS (okS_prs 2 (by decide)) (allS (okS_prs 2 (by decide)) (allS (okS_cannot 3) (allS (okS_prs 2 (by decide)) (allS (okS_cannot 3) (allS (okS_prs 2 (by decide)) (allS (okS_cannot 3) (allS (okS_cannot 3) (allS (okS_cannot 3) (allS True.intro (allS True.intro (allS (okS_prs 2 (by decide)) (allS True.intro allS0)))))))))))))))))))⟩
abbrev tPr (a b : Int) : TE := tTup (tCons (tC (.int a)) (tCons (tC (.int b)) tNil))
section
variable {B : Bs} {Γ : List En}
theorem ev_t0 : EvE B (tTup tNil) Γ (.d (dT [])) := ev_tupD ed_nil (by decide)
theorem ev_t1 {a b : Int} : EvE B (tTup (tCons (tPr a b) tNil)) Γ (.d (dT [(a, b)])) := ev_tupD (ed_cons ev_pr ed_nil) (by show 1 ≤ 100000; decide)
theorem ev_t2 {a b c d : Int} : EvE B (tTup (tCons (tPr a b) (tCons (tPr c d) tNil))) Γ (.d (dT [(a, b), (c, d)])) := ev_tupD (ed_cons ev_pr (ed_cons ev_pr ed_nil)) (by show 2 ≤ 100000; decide)
theorem ev_t3 {a b c d e f : Int} : EvE B (tTup (tCons (tPr a b) (tCons (tPr c d) (tCons (tPr e f) tNil)))) Γ (.d (dT [(a, b), (c, d), (e, f)])) := ev_tupD (ed_cons ev_pr (ed_cons ev_pr (ed_cons ev_pr ed_nil))) (by show 3 ≤ 100000; decide)
theorem ev_t4 {a b c d e f g h : Int} : EvE B (tTup (tCons (tPr a b) (tCons (tPr c d) (tCons (tPr e f) (tCons (tPr g h) tNil))))) Γ (.d (dT [(a, b), (c, d), (e, f), (g, h)])) := ev_tupD (ed_cons ev_pr (ed_cons ev_pr (ed_cons ev_pr (ed_cons ev_pr ed_nil)))) (by show 4 ≤ 100000; decide)
theorem ev_t5 {a b c d e f g h i j : Int} : EvE B (tTup (tCons (tPr a b) (tCons (tPr c d) (tCons (tPr e f) (tCons (tPr g h) (tCons (tPr i j) tNil)))))) Γ (.d (dT [(a, b), (c, d), (e, f), (g, h), (i, j)])) := ev_tupD (ed_cons ev_pr (ed_cons ev_pr (ed_cons ev_pr (ed_cons ev_pr (ed_cons ev_pr ed_nil))))) (by show 5 ≤ 100000; decide)
end
section
variable {P : Program} {w : World} {K : PySem.W.Frag} {mg : Str → Option Value} {base : Heap} {C : Addr} (B0 : Bi mg)
include B0
theorem ev_wayC {B : Bs} {Γ : List En} {i j : Nat} {E : XK} {m n : Int} {ts us : List P2} {a b c d : Int} {r : List P2} (gi : Γ[i]? = some (.d (dN m n ts))) (gj : Γ[j]? = some (.d (dT us))) (wt : WT ((m, n, ts), us) (dN m n ts) (dT us)) (hc : AllCon m n us) (pa : PlOk m n (a, b)) (pb : PlOk m n (c, d)) (e : wayOf us (a, b) (c, d) = r) :
    EvE B (tCall sp_way [] E (tCons (tVar i) (tCons (tVar j) (tCons (tPr a b) (tCons (tPr c d) tNil))))) Γ (.d (dT r)) :=
  (ev_callR (ed_cons (ev_var gi) (ed_cons (ev_var gj) (ed_cons ev_pr (ed_cons ev_pr ed_nil)))) (((m, n, ts), us), (dN m n ts, dT us), (dP (a, b), (a, b)), dP (c, d), (c, d)) rfl ⟨wt, ⟨okD_pr 2 _, rfl, pa⟩, ⟨okD_pr 2 _, rfl, pb⟩, hc _ _ pa pb⟩).is (by show En.d (dT (wayOf us (a, b) (c, d))) = _; rw [e])
theorem ev_heardI {B : Bs} {Γ : List En} {i j : Nat} {E : XK} {m n : Int} {ts us : List P2} {k a b s : Int} (ask : Ask) {r : D} (hk : ask.door = k) (gi : Γ[i]? = some (.d (dN m n ts))) (gj : Γ[j]? = some (.d (dT us))) (wt : WT ((m, n, ts), us) (dN m n ts) (dT us)) (hc : AllCon m n us) (hp : ask.pre ts (dP (a, b)) (.int s)) (e : ask.res us = none ∧ r = dC ∨ ∃ w, ask.res us = some w ∧ r = dT w) :
    EvE B (tCall sp__law_heard [] E (tCons (tC (.int k)) (tCons (tVar i) (tCons (tVar j) (tCons (tPr a b) (tCons (tC (.int s)) tNil)))))) Γ (.d r) := by
  subst hk
  refine ev_heard B0 (dP (a, b)) (.int s) ask (ed_cons ev_int (ed_cons (ev_var gi) (ed_cons (ev_var gj) (ed_cons ev_pr (ed_cons ev_int ed_nil))))) wt hc hp ?_
  rcases e with ⟨e1, e2⟩ | ⟨w, e1, e2⟩ <;> rw [e1, e2] <;> rfl
theorem ev_heardP {B : Bs} {Γ : List En} {i j : Nat} {E : XK} {m n : Int} {ts us : List P2} {k a b c d : Int} (ask : Ask) {r : D} (hk : ask.door = k) (gi : Γ[i]? = some (.d (dN m n ts))) (gj : Γ[j]? = some (.d (dT us))) (wt : WT ((m, n, ts), us) (dN m n ts) (dT us)) (hc : AllCon m n us) (hp : ask.pre ts (dP (a, b)) (dP (c, d))) (e : ask.res us = none ∧ r = dC ∨ ∃ w, ask.res us = some w ∧ r = dT w) :
    EvE B (tCall sp__law_heard [] E (tCons (tC (.int k)) (tCons (tVar i) (tCons (tVar j) (tCons (tPr a b) (tCons (tPr c d) tNil)))))) Γ (.d r) := by
  subst hk
  refine ev_heard B0 (dP (a, b)) (dP (c, d)) ask (ed_cons ev_int (ed_cons (ev_var gi) (ed_cons (ev_var gj) (ed_cons ev_pr (ed_cons ev_pr ed_nil))))) wt hc hp ?_
  rcases e with ⟨e1, e2⟩ | ⟨w, e1, e2⟩ <;> rw [e1, e2] <;> rfl
theorem ev_endsC {B : Bs} {Γ : List En} {i j : Nat} {E : XK} {m n : Int} {ts us : List P2} {r : List P2} (gi : Γ[i]? = some (.d (dN m n ts))) (gj : Γ[j]? = some (.d (dT us))) (wt : WT ((m, n, ts), us) (dN m n ts) (dT us)) (e : endsM us = r) :
    EvE B (tCall sp_ends_of [] E (tCons (tVar i) (tCons (tVar j) tNil))) Γ (.d (dT r)) :=
  (ev_callR (ed_cons (ev_var gi) (ed_cons (ev_var gj) ed_nil)) (((m, n, ts), us), dN m n ts, dT us) rfl wt).is (by show En.d (dT (endsM us)) = _; rw [e])
theorem pre_part {ts : List P2} {p : P2} {s : Int} (h : p ∈ ts) (hs : s = 0 ∨ s = 1) : (Ask.part p s).pre ts (dP p) (.int s) := ⟨⟨okD_pr 2 _, rfl, h⟩, hs, rfl⟩
theorem pre_close {ts : List P2} {p : P2} {d4 : D} (h : p ∈ ts) : (Ask.close p).pre ts (dP p) d4 := ⟨okD_pr 2 _, rfl, h⟩
theorem pre_change {ts : List P2} {p q : P2} (h : p ∈ ts) (k : q ∈ ts) : (Ask.change p q).pre ts (dP p) (dP q) := ⟨⟨okD_pr 2 _, rfl, h⟩, okD_pr 2 _, rfl, k⟩
abbrev sp__law_hand_right : Sp := spR (fun _ : Unit => []) (fun _ => True) fun _ => .bool true
theorem ok__law_hand_right (c__law_house_tree : Cal P w K mg base CX0 1 "_law_house_tree" s__law_house_tree [] sp__law_house_tree) (c__law_house : Cal P w K mg base CX0 1 "_law_house" s__law_house [] sp__law_house) (c_way : Cal P w K mg base CX0 7 "way" s_way ["web", "tree", "place", "other"] sp_way) (c_ends_of : Cal P w K mg base CX0 7 "ends_of" s_ends_of ["web", "tree"] sp_ends_of) (c__law_heard : Cal P w K mg base CX0 8 "_law_heard" s__law_heard ["_law_door", "_law_net_here", "_law_boughs", "_law_one", "_law_two"] sp__law_heard) (c__law_ring : Cal P w K mg base CX0 1 "_law_ring" s__law_ring ["_law_many_so"] sp__law_ring) (c__law_same : Cal P w K mg base CX0 6 "_law_same" s__law_same ["_law_got", "_law_due"] sp__law_same) (d : Dfx K mg "_law_hand_right" s__law_hand_right []) : Cal P w K mg base CX0 9 "_law_hand_right" s__law_hand_right [] sp__law_hand_right := d.cal fun f fd F => by
  refine fnR F sc__law_hand_right (fun _ => rfl) (by decide) fun cdv A outer s H E hr => ?_
  have hu64 := hr.units
  have hu65 := hu65_of hr
  have hu := hu_of hr
  have hu0 := hr.units0
  obtain ⟨f__law_house_tree, fd__law_house_tree, F__law_house_tree, m__law_house_tree, b__law_house_tree, ok__law_house_tree⟩ := c__law_house_tree
  obtain ⟨f__law_house, fd__law_house, F__law_house, m__law_house, b__law_house, ok__law_house⟩ := c__law_house
  obtain ⟨f_way, fd_way, F_way, m_way, b_way, ok_way⟩ := c_way
  obtain ⟨f_ends_of, fd_ends_of, F_ends_of, m_ends_of, b_ends_of, ok_ends_of⟩ := c_ends_of
  obtain ⟨f__law_heard, fd__law_heard, F__law_heard, m__law_heard, b__law_heard, ok__law_heard⟩ := c__law_heard
  obtain ⟨f__law_ring, fd__law_ring, F__law_ring, m__law_ring, b__law_ring, ok__law_ring⟩ := c__law_ring
  obtain ⟨f__law_same, fd__law_same, F__law_same, m__law_same, b__law_same, ok__law_same⟩ := c__law_same
  have nd := sc__law_hand_right.nd
  refine ⟨_, (pss_cons (ps_par3 (i := 4) (j := 5) (l := 6) rfl nd rfl rfl rfl (by decide) (by decide) (by decide) rfl rfl rfl (pa_cons (pe_call0 ok__law_house (hr.mono (by decide)) rfl m__law_house F__law_house.kp b__law_house .nil pass0) (pa_cons (pe_call0 ok__law_house_tree (hr.mono (by decide)) rfl m__law_house_tree F__law_house_tree.kp b__law_house_tree .nil pass0) (pa_cons (pe_lst (pa_cons pe_str (pa_cons pe_bl pa_nil))) pa_nil))) rfl)
    (pss_cons (ps_set (i := 0) nd rfl (Or.inl rfl) (pe_lst (pa_cons (pe_call ok_way (hr.mono (by decide)) rfl m_way F_way.kp b_way .nil pass0 (pa_cons (pv 4) (pa_cons (pv 5) (pa_cons (pe_tup (pa_cons pe_int (pa_cons pe_int pa_nil))) (pa_cons (pe_tup (pa_cons pe_int (pa_cons pe_int pa_nil))) pa_nil))))) (pa_cons (pe_call ok_way (hr.mono (by decide)) rfl m_way F_way.kp b_way .nil pass0 (pa_cons (pv 4) (pa_cons (pv 5) (pa_cons (pe_tup (pa_cons pe_int (pa_cons pe_int pa_nil))) (pa_cons (pe_tup (pa_cons pe_int (pa_cons pe_int pa_nil))) pa_nil))))) (pa_cons (pe_call ok_way (hr.mono (by decide)) rfl m_way F_way.kp b_way .nil pass0 (pa_cons (pv 4) (pa_cons (pv 5) (pa_cons (pe_tup (pa_cons pe_int (pa_cons pe_int pa_nil))) (pa_cons (pe_tup (pa_cons pe_int (pa_cons pe_int pa_nil))) pa_nil))))) (pa_cons (pe_call ok_way (hr.mono (by decide)) rfl m_way F_way.kp b_way .nil pass0 (pa_cons (pv 4) (pa_cons (pv 5) (pa_cons (pe_tup (pa_cons pe_int (pa_cons pe_int pa_nil))) (pa_cons (pe_tup (pa_cons pe_int (pa_cons pe_int pa_nil))) pa_nil))))) pa_nil))))))
    (pss_cons (ps_set (i := 0) nd rfl (Or.inl rfl) (pe_op op_cat (pv 0) (pe_lst (pa_cons (pe_call ok_ends_of (hr.mono (by decide)) rfl m_ends_of F_ends_of.kp b_ends_of .nil pass0 (pa_cons (pv 4) (pa_cons (pv 5) pa_nil))) pa_nil))))
    (pss_cons (ps_set (i := 1) nd rfl (Or.inl rfl) (pe_lst (pa_cons (pe_tup (pa_cons (pe_tup (pa_cons pe_int (pa_cons pe_int pa_nil))) (pa_cons (pe_tup (pa_cons pe_int (pa_cons pe_int pa_nil))) (pa_cons (pe_tup (pa_cons pe_int (pa_cons pe_int pa_nil))) pa_nil)))) (pa_cons (pe_tup (pa_cons (pe_tup (pa_cons pe_int (pa_cons pe_int pa_nil))) pa_nil)) (pa_cons (pe_tup pa_nil) (pa_cons (pe_tup (pa_cons (pe_tup (pa_cons pe_int (pa_cons pe_int pa_nil))) (pa_cons (pe_tup (pa_cons pe_int (pa_cons pe_int pa_nil))) (pa_cons (pe_tup (pa_cons pe_int (pa_cons pe_int pa_nil))) pa_nil)))) (pa_cons (pe_tup (pa_cons (pe_tup (pa_cons pe_int (pa_cons pe_int pa_nil))) (pa_cons (pe_tup (pa_cons pe_int (pa_cons pe_int pa_nil))) (pa_cons (pe_tup (pa_cons pe_int (pa_cons pe_int pa_nil))) pa_nil)))) pa_nil)))))))
    (pss_cons (ps_set (i := 0) nd rfl (Or.inl rfl) (pe_op op_cat (pv 0) (pe_lst (pa_cons (pe_call ok__law_heard (hr.mono (by decide)) rfl m__law_heard F__law_heard.kp b__law_heard .nil pass0 (pa_cons pe_int (pa_cons (pv 4) (pa_cons (pv 5) (pa_cons (pe_tup (pa_cons pe_int (pa_cons pe_int pa_nil))) (pa_cons pe_int pa_nil)))))) (pa_cons (pe_call ok__law_heard (hr.mono (by decide)) rfl m__law_heard F__law_heard.kp b__law_heard .nil pass0 (pa_cons pe_int (pa_cons (pv 4) (pa_cons (pv 5) (pa_cons (pe_tup (pa_cons pe_int (pa_cons pe_int pa_nil))) (pa_cons pe_int pa_nil)))))) (pa_cons (pe_call ok__law_heard (hr.mono (by decide)) rfl m__law_heard F__law_heard.kp b__law_heard .nil pass0 (pa_cons pe_int (pa_cons (pv 4) (pa_cons (pv 5) (pa_cons (pe_tup (pa_cons pe_int (pa_cons pe_int pa_nil))) (pa_cons pe_int pa_nil)))))) pa_nil))))))
    (pss_cons (ps_set (i := 0) nd rfl (Or.inl rfl) (pe_op op_cat (pv 0) (pe_lst (pa_cons (pe_call ok__law_heard (hr.mono (by decide)) rfl m__law_heard F__law_heard.kp b__law_heard .nil pass0 (pa_cons pe_int (pa_cons (pv 4) (pa_cons (pv 5) (pa_cons (pe_tup (pa_cons pe_int (pa_cons pe_int pa_nil))) (pa_cons pe_int pa_nil)))))) pa_nil))))
    (pss_cons (ps_set (i := 1) nd rfl (Or.inl rfl) (pe_op op_cat (pv 1) (pe_lst (pa_cons (pe_tup (pa_cons (pe_tup (pa_cons pe_int (pa_cons pe_int pa_nil))) (pa_cons (pe_tup (pa_cons pe_int (pa_cons pe_int pa_nil))) pa_nil))) (pa_cons (pe_tup (pa_cons (pe_tup (pa_cons pe_int (pa_cons pe_int pa_nil))) (pa_cons (pe_tup (pa_cons pe_int (pa_cons pe_int pa_nil))) (pa_cons (pe_tup (pa_cons pe_int (pa_cons pe_int pa_nil))) (pa_cons (pe_tup (pa_cons pe_int (pa_cons pe_int pa_nil))) pa_nil))))) (pa_cons (pe_tup (pa_cons (pe_tup (pa_cons pe_int (pa_cons pe_int pa_nil))) pa_nil)) (pa_cons (pv 6) pa_nil)))))))
    (pss_cons (ps_set (i := 0) nd rfl (Or.inl rfl) (pe_op op_cat (pv 0) (pe_lst (pa_cons (pe_call ok__law_heard (hr.mono (by decide)) rfl m__law_heard F__law_heard.kp b__law_heard .nil pass0 (pa_cons pe_int (pa_cons (pv 4) (pa_cons (pv 5) (pa_cons (pe_tup (pa_cons pe_int (pa_cons pe_int pa_nil))) (pa_cons pe_int pa_nil)))))) (pa_cons (pe_call ok__law_heard (hr.mono (by decide)) rfl m__law_heard F__law_heard.kp b__law_heard .nil pass0 (pa_cons pe_int (pa_cons (pv 4) (pa_cons (pv 5) (pa_cons (pe_tup (pa_cons pe_int (pa_cons pe_int pa_nil))) (pa_cons pe_int pa_nil)))))) (pa_cons (pe_call ok__law_heard (hr.mono (by decide)) rfl m__law_heard F__law_heard.kp b__law_heard .nil pass0 (pa_cons pe_int (pa_cons (pv 4) (pa_cons (pv 5) (pa_cons (pe_tup (pa_cons pe_int (pa_cons pe_int pa_nil))) (pa_cons (pe_tup (pa_cons pe_int (pa_cons pe_int pa_nil))) pa_nil)))))) pa_nil))))))
    (pss_cons (ps_set (i := 0) nd rfl (Or.inl rfl) (pe_op op_cat (pv 0) (pe_lst (pa_cons (pe_call ok__law_heard (hr.mono (by decide)) rfl m__law_heard F__law_heard.kp b__law_heard .nil pass0 (pa_cons pe_int (pa_cons (pv 4) (pa_cons (pv 5) (pa_cons (pe_tup (pa_cons pe_int (pa_cons pe_int pa_nil))) (pa_cons (pe_tup (pa_cons pe_int (pa_cons pe_int pa_nil))) pa_nil)))))) (pa_cons (pe_call ok__law_heard (hr.mono (by decide)) rfl m__law_heard F__law_heard.kp b__law_heard .nil pass0 (pa_cons pe_int (pa_cons (pv 4) (pa_cons (pv 5) (pa_cons (pe_tup (pa_cons pe_int (pa_cons pe_int pa_nil))) (pa_cons (pe_tup (pa_cons pe_int (pa_cons pe_int pa_nil))) pa_nil)))))) (pa_cons (pe_call ok__law_heard (hr.mono (by decide)) rfl m__law_heard F__law_heard.kp b__law_heard .nil pass0 (pa_cons pe_int (pa_cons (pv 4) (pa_cons (pv 5) (pa_cons (pe_tup (pa_cons pe_int (pa_cons pe_int pa_nil))) (pa_cons (pe_tup (pa_cons pe_int (pa_cons pe_int pa_nil))) pa_nil)))))) pa_nil))))))
    (pss_cons (ps_set (i := 1) nd rfl (Or.inl rfl) (pe_op op_cat (pv 1) (pe_lst (pa_cons (pe_tup (pa_cons (pe_tup (pa_cons pe_int (pa_cons pe_int pa_nil))) (pa_cons (pe_tup (pa_cons pe_int (pa_cons pe_int pa_nil))) (pa_cons (pe_tup (pa_cons pe_int (pa_cons pe_int pa_nil))) pa_nil)))) (pa_cons (pv 6) (pa_cons (pe_tup (pa_cons (pe_tup (pa_cons pe_int (pa_cons pe_int pa_nil))) (pa_cons (pe_tup (pa_cons pe_int (pa_cons pe_int pa_nil))) (pa_cons (pe_tup (pa_cons pe_int (pa_cons pe_int pa_nil))) (pa_cons (pe_tup (pa_cons pe_int (pa_cons pe_int pa_nil))) (pa_cons (pe_tup (pa_cons pe_int (pa_cons pe_int pa_nil))) pa_nil)))))) (pa_cons (pv 6) (pa_cons (pv 6) (pa_cons (pv 6) pa_nil)))))))))
    (pss_cons (ps_set (i := 2) nd rfl (Or.inl rfl) (pe_call ok__law_ring (hr.mono (by decide)) rfl m__law_ring F__law_ring.kp b__law_ring .nil pass0 (pa_cons pe_int pa_nil)))
    (pss_cons (ps_set (i := 3) nd rfl (Or.inl rfl) (pe_callTy (k_tuple K rfl) rfl B0.tuple (by decide +kernel) (pa_cons (pe_lc (own := [("_law_own", 7)]) rfl nd (k_iT K rfl (pe_ix (k_ixT K rfl) (pv 2) pe_int (fun _ _ => rfl))) (blkOk_by (N := ["_law_got", "_law_due", "_law_ring_so", "_law_long_so", "_law_house_here", "_law_tree", "_law_none_so", "_law_own"]) (sc := defScope s__law_hand_right) (own := [("_law_own", 7)]) (by decide +kernel)) (fun _ _ _ _ _ => (pg_name (i := 7) nd rfl (by first | exact Or.inl rfl | exact Or.inr rfl))) (fun _ _ _ _ _ => pts_one (pt_cmpR (k_neD K rfl hu64) (pv 7) (pe_tup (pa_cons pe_int (pa_cons pe_int pa_nil))) (nomark _))) (fun _ _ _ _ _ => (pv 7))) pa_nil)))
    (pss_cons (ps_set (i := 0) nd rfl (Or.inl rfl) (pe_op op_cat (pv 0) (pe_lst (pa_cons (pe_callB (k_len K rfl) rfl B0.len (by decide +kernel) (pa_cons (pe_call ok_way (hr.mono (by decide)) rfl m_way F_way.kp b_way .nil pass0 (pa_cons (pv 2) (pa_cons (pv 3) (pa_cons (pe_tup (pa_cons pe_int (pa_cons pe_int pa_nil))) (pa_cons (pe_tup (pa_cons pe_int (pa_cons pe_int pa_nil))) pa_nil))))) pa_nil)) (pa_cons (pe_callB (k_len K rfl) rfl B0.len (by decide +kernel) (pa_cons (pe_call ok__law_heard (hr.mono (by decide)) rfl m__law_heard F__law_heard.kp b__law_heard .nil pass0 (pa_cons pe_int (pa_cons (pv 2) (pa_cons (pv 3) (pa_cons (pe_tup (pa_cons pe_int (pa_cons pe_int pa_nil))) (pa_cons pe_int pa_nil)))))) pa_nil)) (pa_cons (pe_call ok_ends_of (hr.mono (by decide)) rfl m_ends_of F_ends_of.kp b_ends_of .nil pass0 (pa_cons (pv 2) (pa_cons (pv 3) pa_nil))) pa_nil))))))
    (pss_cons (ps_set (i := 0) nd rfl (Or.inl rfl) (pe_op op_cat (pv 0) (pe_lst (pa_cons (pe_callB (k_len K rfl) rfl B0.len (by decide +kernel) (pa_cons (pe_call ok__law_heard (hr.mono (by decide)) rfl m__law_heard F__law_heard.kp b__law_heard .nil pass0 (pa_cons pe_int (pa_cons (pv 2) (pa_cons (pv 3) (pa_cons (pe_tup (pa_cons pe_int (pa_cons pe_int pa_nil))) (pa_cons pe_int pa_nil)))))) pa_nil)) pa_nil))))
    (pss_one (ps_ret (pe_call ok__law_same (hr.mono (by decide)) rfl m__law_same F__law_same.kp b__law_same .nil pass0 (pa_cons (pv 0) (pa_cons (pe_op op_cat (pv 1) (pe_lst (pa_cons pe_int (pa_cons pe_int (pa_cons (pe_tup (pa_cons (pe_tup (pa_cons pe_int (pa_cons pe_int pa_nil))) (pa_cons (pe_tup (pa_cons pe_int (pa_cons pe_int pa_nil))) pa_nil))) (pa_cons pe_int pa_nil)))))) pa_nil))))))))))))))))))), ?_⟩
  rintro B x _
  refine ht_seq (ht_par3 (ea_cons (ev_callR ed_nil () rfl trivial) (ea_cons (ev_callR ed_nil () rfl trivial) (ea_cons (ev_cannot B0) ea_nil))) ?_)
  refine ht_seq (ht_set (e := .d (.list g1)) (ev_lstD (ed_cons (ev_wayC B0 rfl rfl wt_h ac_h (by unfold PlOk; decide) (by unfold PlOk; decide) (by decide +kernel)) (ed_cons (ev_wayC B0 rfl rfl wt_h ac_h (by unfold PlOk; decide) (by unfold PlOk; decide) (by decide +kernel)) (ed_cons (ev_wayC B0 rfl rfl wt_h ac_h (by unfold PlOk; decide) (by unfold PlOk; decide) (by decide +kernel)) (ed_cons (ev_wayC B0 rfl rfl wt_h ac_h (by unfold PlOk; decide) (by unfold PlOk; decide) (by decide +kernel)) ed_nil)))) (by decide)) ?_)
  refine ht_seq (ht_set' (e := .d (.list (g1 ++ g2))) (ev_op (ev_var rfl) (ev_lstD (ds := g2) (ed_cons (ev_endsC B0 rfl rfl wt_h (by decide +kernel)) ed_nil) (by decide)) (ro_cat (by decide))) rfl ?_)
  refine ht_seq (ht_set' (e := .d (.list (g1 ++ g2))) (ev_lstD (ed_cons ev_t3 (ed_cons ev_t1 (ed_cons ev_t0 (ed_cons ev_t3 (ed_cons ev_t3 ed_nil))))) (by show 5 ≤ 100000; decide)) rfl ?_)
  refine ht_seq (ht_set' (e := .d (.list ((g1 ++ g2) ++ g3))) (ev_op (ev_var rfl) (ev_lstD (ds := g3) (ed_cons (ev_heardI B0 (.part (0, 1) 0) rfl rfl rfl wt_h ac_h (pre_part B0 (by decide) (by decide)) (.inr ⟨_, by decide +kernel, rfl⟩)) (ed_cons (ev_heardI B0 (.part (0, 1) 1) rfl rfl rfl wt_h ac_h (pre_part B0 (by decide) (by decide)) (.inr ⟨_, by decide +kernel, rfl⟩)) (ed_cons (ev_heardI B0 (.part (2, 2) 1) rfl rfl rfl wt_h ac_h (pre_part B0 (by decide) (by decide)) (.inr ⟨_, by decide +kernel, rfl⟩)) ed_nil))) (by decide)) (ro_cat (by decide))) rfl ?_)
  refine ht_seq (ht_set' (e := .d (.list (((g1 ++ g2) ++ g3) ++ g4))) (ev_op (ev_var rfl) (ev_lstD (ds := g4) (ed_cons (ev_heardI B0 (.part (1, 0) 0) rfl rfl rfl wt_h ac_h (pre_part B0 (by decide) (by decide)) (.inl ⟨by decide +kernel, rfl⟩)) ed_nil) (by decide)) (ro_cat (by decide))) rfl ?_)
  refine ht_seq (ht_set' (e := .d (.list (((g1 ++ g2) ++ g3) ++ g4))) (ev_op (ev_var rfl) (ev_lstD (ds := g3 ++ g4) (ed_cons ev_t2 (ed_cons ev_t4 (ed_cons ev_t1 (ed_cons (ev_var rfl) ed_nil)))) (by decide)) (ro_cat (by decide))) rfl ?_)
  refine ht_seq (ht_set' (e := .d (.list ((((g1 ++ g2) ++ g3) ++ g4) ++ g5))) (ev_op (ev_var rfl) (ev_lstD (ds := g5) (ed_cons (ev_heardI B0 (.close (1, 0)) rfl rfl rfl wt_h ac_h (pre_close B0 (by decide)) (.inr ⟨_, by decide +kernel, rfl⟩)) (ed_cons (ev_heardI B0 (.close (0, 0)) rfl rfl rfl wt_h ac_h (pre_close B0 (by decide)) (.inl ⟨by decide +kernel, rfl⟩)) (ed_cons (ev_heardP B0 (.change (1, 0) (0, 1)) rfl rfl rfl wt_h ac_h (pre_change B0 (by decide) (by decide)) (.inr ⟨_, by decide +kernel, rfl⟩)) ed_nil))) (by decide)) (ro_cat (by decide))) rfl ?_)
  refine ht_seq (ht_set' (e := .d (.list (((((g1 ++ g2) ++ g3) ++ g4) ++ g5) ++ g6))) (ev_op (ev_var rfl) (ev_lstD (ds := g6) (ed_cons (ev_heardP B0 (.change (1, 0) (2, 1)) rfl rfl rfl wt_h ac_h (pre_change B0 (by decide) (by decide)) (.inl ⟨by decide +kernel, rfl⟩)) (ed_cons (ev_heardP B0 (.change (0, 0) (0, 1)) rfl rfl rfl wt_h ac_h (pre_change B0 (by decide) (by decide)) (.inl ⟨by decide +kernel, rfl⟩)) (ed_cons (ev_heardP B0 (.change (1, 0) (1, 0)) rfl rfl rfl wt_h ac_h (pre_change B0 (by decide) (by decide)) (.inl ⟨by decide +kernel, rfl⟩)) ed_nil))) (by decide)) (ro_cat (by decide))) rfl ?_)
  refine ht_seq (ht_set' (e := .d (.list (((((g1 ++ g2) ++ g3) ++ g4) ++ g5) ++ g6))) (ev_op (ev_var rfl) (ev_lstD (ds := g5 ++ g6) (ed_cons ev_t3 (ed_cons (ev_var rfl) (ed_cons ev_t5 (ed_cons (ev_var rfl) (ed_cons (ev_var rfl) (ed_cons (ev_var rfl) ed_nil)))))) (by decide)) (ro_cat (by decide))) rfl ?_)
  refine ht_seq (ht_set (e := .d (dN 12 12 ringS)) (ev_callR (ed_cons ev_int ed_nil) 12 rfl rfl) ?_)
  refine ht_seq (ht_set (e := .d (dT ringT)) (ev_cbD (ed_cons (ev_lcF (xs := ringS) (c := dP) (fun t => !decide (t = (11, 0))) dP (ei_tup (ev_op (ev_var rfl) ev_int ix2)) (hv1 rfl) hj1 (by decide +kernel) fun t ht => ⟨_, eg_name, eb_test ((ev_op (ev_var rfl) ev_pr (ro_neD (shaped_pair t) (shaped_pair _))).is (by rw [eqv_pair])), fun _ => ev_var rfl⟩) ed_nil) rc_tupL) ?_)
  have w1 : (wayOf ringT (1, 0) (0, 11)).length = 23 := by decide +kernel
  have w2 : ∃ v, Ask.res ringT (.close (11, 0)) = some v ∧ v.length = 23 := ⟨clM ringT (11, 0), by rw [res_close, if_neg (by decide +kernel)], by decide +kernel⟩
  have w3 : ∃ v, Ask.res ringT (.part (5, 5) 0) = some v ∧ v.length = 13 := ⟨partM ringT (5, 5) 0, by rw [res_part, if_pos (by decide +kernel)], by decide +kernel⟩
  obtain ⟨v2, w2, l2⟩ := w2
  obtain ⟨v3, w3, l3⟩ := w3
  have elen : ∀ (v : List P2) (k : Nat), v.length = k → En.d (.int ((v.map dP).length : Int)) = .d (.int k) := fun v k h => by rw [List.length_map, h]
  refine ht_seq (ht_set' (e := .d (.list ((((((g1 ++ g2) ++ g3) ++ g4) ++ g5) ++ g6) ++ g7))) (ev_op (ev_var rfl) (ev_lstD (ds := g7) (ed_cons ((ev_cbD (ed_cons (ev_wayC B0 rfl rfl wt_r ac_r (by unfold PlOk; decide) (by unfold PlOk; decide) rfl) ed_nil) rc_lenT).is (elen _ 23 w1)) (ed_cons ((ev_cbD (ed_cons (ev_heardI B0 (.close (11, 0)) rfl rfl rfl wt_r ac_r (pre_close B0 (by decide +kernel)) (.inr ⟨v2, w2, rfl⟩)) ed_nil) rc_lenT).is (elen _ 23 l2)) (ed_cons (ev_endsC B0 rfl rfl wt_r (by decide +kernel)) ed_nil))) (by decide)) (ro_cat (by decide))) rfl ?_)
  refine ht_seq (ht_set' (e := .d (.list (((((((g1 ++ g2) ++ g3) ++ g4) ++ g5) ++ g6) ++ g7) ++ g8))) (ev_op (ev_var rfl) (ev_lstD (ds := g8) (ed_cons ((ev_cbD (ed_cons (ev_heardI B0 (.part (5, 5) 0) rfl rfl rfl wt_r ac_r (pre_part B0 (by decide +kernel) (by decide)) (.inr ⟨v3, w3, rfl⟩)) ed_nil) rc_lenT).is (elen _ 13 l3)) ed_nil) (by decide)) (ro_cat (by decide))) rfl ?_)
  exact ht_ret (ev_same B0 (d := .list (((((((g1 ++ g2) ++ g3) ++ g4) ++ g5) ++ g6) ++ g7) ++ g8)) (ev_var rfl) (ev_op (ev_var rfl) (ev_lstD (ds := g7 ++ g8) (ed_cons ev_int (ed_cons ev_int (ed_cons ev_t2 (ed_cons ev_int ed_nil)))) (by decide)) (ro_cat (by decide))) okS_all) rfl
abbrev sp_law (K : PySem.W.Frag) : Sp := fun vs H Q _ => ∃ (a : Addr) (ns : List Int), vs = [.ref a] ∧ SqL K H a (ns.map V.int) ∧ ns.length ≤ 63 ∧ ∀ H', Q (.bl true) H'
omit B0 in
theorem fnL {f : Addr} {fd : FuncData} {x : Str} {st : Stmt} {k : Nat} {N ps : List Str} (F : Fun K x x st f fd) (S : FnScope N ps (defScope st)) (hn : ps.length = 1) (hN : N.length = 1)
    (body : ∀ (cdv : Value) (A : Around) (outer : List PySem.Env) (s : Shared) (H : Hp) (E : XK), Room k (A.deeper (PyProof.Rows.envOfC x (defScope st) s.heap.objs.size f cdv)) →
      ∃ t, PSs (cxOf CX0 P w K mg base N x (defScope st) f cdv A outer s H E).nox (defBody st) t ∧
        ∀ (B : Bs) a (ns : List Int), B.T = T0 → SqL K B.H0 a (ns.map V.int) → ns.length ≤ 63 → HT B t [.raw (.ref a)] (fun _ => False) (fun _ e => e = .d (.bool true))) :
    FnOk P w K mg base CX0 (k + 1) f fd ps (sp_law K) := by
  refine F.ok S (fun vs H Q E ⟨a, ns, ev, hS, hl, q⟩ => by rw [ev, hn]; rfl) fun cdv A outer s H vs Q E hr ⟨a, ns, ev, hS, hl, q⟩ => ?_
  subst ev
  obtain ⟨t, ht, hb⟩ := body cdv A outer s H E hr
  refine ⟨t, ht, ?_⟩
  have s0 : Stt ⟨K, T0, fun _ => none, H⟩ (start N [.ref a]) [.raw (.ref a)] [] H := by
    have e1 : start N [.ref a] = [some (.ref a)] := by rw [start_eq, hN]; rfl
    rw [e1]
    refine ⟨rfl, fun _ => none, Gr.refl (fun _ _ z => by cases z), fun x hx hn => ?_, apart_noM fun x hx u z => ?_⟩
    · simp only [List.zip_cons_cons, List.zip_nil_right, List.nil_append, List.mem_cons, List.not_mem_nil, or_false] at hx
      subst hx; exact ⟨_, rfl, rfl⟩
    · simp only [List.zip_cons_cons, List.zip_nil_right, List.nil_append, List.mem_cons, List.not_mem_nil, or_false] at hx
      subst hx; cases z
  refine hb _ a ns rfl hS hl _ [] H _ s0 (fun Γ' σ' H' hN s' => hN.elim) fun Γ' e σ' v H' ed s' => ?_
  subst ed
  obtain ⟨hl, I', g, k, _⟩ := s'.one
  cases k
  exact q H'
theorem ok_law (c__law_right : Cal P w K mg base CX0 9 "_law_right" s__law_right ["_law_tin"] sp__law_right) (c__law_box : Cal P w K mg base CX0 1 "_law_box" s__law_box ["_law_script", "_law_k"] sp__law_box) (c__law_cells : Cal P w K mg base CX0 1 "_law_cells" s__law_cells ["_law_script", "_law_most_so"] (sp__law_cells K)) (c__law_hand_right : Cal P w K mg base CX0 9 "_law_hand_right" s__law_hand_right [] sp__law_hand_right) (d : Dfx K mg "law" s_law ["_law_script"]) : Cal P w K mg base CX0 10 "law" s_law ["_law_script"] (sp_law K) := d.cal fun f fd F => by
  refine fnL F sc_law rfl rfl fun cdv A outer s H E hr => ?_
  have hu64 := hr.units
  have hu65 := hu65_of hr
  have hu := hu_of hr
  have hu0 := hr.units0
  obtain ⟨f__law_right, fd__law_right, F__law_right, m__law_right, b__law_right, ok__law_right⟩ := c__law_right
  obtain ⟨f__law_box, fd__law_box, F__law_box, m__law_box, b__law_box, ok__law_box⟩ := c__law_box
  obtain ⟨f__law_cells, fd__law_cells, F__law_cells, m__law_cells, b__law_cells, ok__law_cells⟩ := c__law_cells
  obtain ⟨f__law_hand_right, fd__law_hand_right, F__law_hand_right, m__law_hand_right, b__law_hand_right, ok__law_hand_right⟩ := c__law_hand_right
  have nd := sc_law.nd
  refine ⟨_, (pss_one (ps_ret (pe_and (pe_call0 ok__law_hand_right (hr.mono (by decide)) rfl m__law_hand_right F__law_hand_right.kp b__law_hand_right .nil pass0) (pe_one (pe_call ok__law_right (hr.mono (by decide)) rfl m__law_right F__law_right.kp b__law_right .nil pass0 (pa_cons (pe_call ok__law_box (hr.mono (by decide)) rfl m__law_box F__law_box.kp b__law_box .nil pass0 (pa_cons (pe_call ok__law_cells (hr.mono (by decide)) rfl m__law_cells F__law_cells.kp b__law_cells .nil pass0 (pa_cons (pv 0) (pa_cons pe_int pa_nil))) (pa_cons pe_int pa_nil))) pa_nil)))))), ?_⟩
  intro B a ns hT hS h
  refine ht_ret' (ev_andV (ev_callR ed_nil () rfl trivial) fun _ => ev_callFresh (d := .bool true) (et_call (xa_cons (R1 := fun Γ1 d => Γ1 = [.raw (.ref a)] ∧ ∃ z : Int, d = dI [z]) (xd_callC B0 rfl hS hT h) fun Γ1 d ⟨e1, z, e2⟩ => ?_)) ⟨(), rfl, trivial⟩ (by decide) fun d h => h) rfl rfl
  subst e1 e2
  exact xa_cons (xd_of ev_int (R := fun Γ1 d => Γ1 = [.raw (.ref a)] ∧ d = .int 0) ⟨rfl, rfl⟩) fun Γ1 d ⟨e1, e2⟩ => by
    subst e1 e2
    exact xa_nil ⟨rfl, z, rfl, trivial⟩
end
end G

set_option Elab.async false
set_option linter.all false
set_option maxRecDepth 100000
set_option maxHeartbeats 4000000
namespace G
open PySem L2
theorem dfx_mk {K : PySem.W.Frag} {h : Heap} {mg : Str → Option Value} (X : K.In h) (GG : h.Ns mainGlobals mg) {x : Str} {st : Stmt} {ps : List Str} {f : Addr} {oc kV dc pm cd ct : Value} {od an : Option Addr} {sl : Array (Option Value)}
    (hb : ∀ (kV doc pm : Value) (an : Option Addr) (cdv ct : Value) (us : List Value), us.length = ps.length → bindArgs (PySem.W.fnOf x x (defArgs st) (defBody st) (defScope st) .none kV doc pm an cdv ct) ⟨us, []⟩ = pure (ps.zip us))
    (a : PySem.W.nsIn K mainGlobals x = some (some (.ref f))) (l : K.lookup f = some ⟨oc, od, .func (PySem.W.fnOf x x (defArgs st) (defBody st) (defScope st) .none kV dc pm an cd ct), sl⟩) (c : PySem.W.codeIn K cd x = true) (k : PySem.W.keepIn K (.ref f) = true) : Dfx K mg x st ps :=
  have F := fun_mk l c k
  ⟨f, _, F, PySem.W.mg_of X GG a, F.binds hb⟩
theorem cannot_mk {K : PySem.W.Frag} {h : Heap} {mg : Str → Option Value} {C : Addr} (X : K.In h) (GG : h.Ns mainGlobals mg) (a : PySem.W.nsIn K mainGlobals "CanNot" = some (some (.ref C)))
    (x : PySem.W.excIn K C [.type "ValueError", .type "Exception", .type "BaseException", .type "object"] "ValueError.__new__" = true) (k : PySem.W.keepIn K (.ref C) = true) (b : PySem.W.subIn K (.ref C) (.type "BaseException") = some true) (t : PySem.W.typeIn K (.ref C) = some (.type "type"))
    (s : PySem.W.subIn K (.ref C) (.ref C) = some true) (hg : PySem.W.findIn K (.ref C) "__getattribute__" = some (some (.builtin "BaseException.__getattribute__"))) (hk : PySem.W.findIn K (.ref C) "__getattr__" = some none) (hd : PySem.W.hasDictIn K C = true)
    (ha : PySem.W.findIn K (.ref C) "__class__" = some (some (.builtin "object.__class__"))) (hn : PySem.W.specialIn K (.builtin "object.__class__") "__get__" = some (some (.builtin "getset_descriptor.__get__"))) (ht : PySem.W.takesIn K (.builtin "object.__class__") = some true)
    (hm : PySem.W.mroIn K C (.type "object") = some true) (q : PySem.W.subIn K (.ref C) (.type "ValueError") = some true) : CanNot K mg C := by
  have q2 : PySem.W.kitOne K (.ref C) (.type "ValueError") = some true := by
    unfold PySem.W.kitOne
    rw [if_neg (by intro z; exact nomatch (beq_iff_eq.mp z))]
    show (if PySem.W.kitMeta "ValueError" = true then PySem.W.subIn K (.ref C) (.type "ValueError") else none) = some true
    rw [if_pos (by decide +kernel)]
    exact q
  exact ⟨x, PySem.W.mg_of X GG a, k, b, t, PySem.W.exm_ref b hd t s, ⟨hg, hk, b, hd, ha, hn, ht, hm⟩, q2⟩
theorem hb__law_take : ∀ (kV doc pm : Value) (an : Option Addr) (cdv ct : Value) (us : List Value), us.length = (["_law_tin", "_law_below_so"] : List Str).length → bindArgs (PySem.W.fnOf "_law_take" "_law_take" (defArgs s__law_take) (defBody s__law_take) (defScope s__law_take) .none kV doc pm an cdv ct) ⟨us, []⟩ = pure ((["_law_tin", "_law_below_so"] : List Str).zip us) := fun _ _ _ _ _ _ us hl => match us, hl with | [_, _], _ => rfl
theorem hb__law_pick : ∀ (kV doc pm : Value) (an : Option Addr) (cdv ct : Value) (us : List Value), us.length = (["_law_tin", "_law_goods_so", "_law_count_so"] : List Str).length → bindArgs (PySem.W.fnOf "_law_pick" "_law_pick" (defArgs s__law_pick) (defBody s__law_pick) (defScope s__law_pick) .none kV doc pm an cdv ct) ⟨us, []⟩ = pure ((["_law_tin", "_law_goods_so", "_law_count_so"] : List Str).zip us) := fun _ _ _ _ _ _ us hl => match us, hl with | [_, _, _], _ => rfl
theorem hb__law_of : ∀ (kV doc pm : Value) (an : Option Addr) (cdv ct : Value) (us : List Value), us.length = (["_law_tin", "_law_goods_so"] : List Str).length → bindArgs (PySem.W.fnOf "_law_of" "_law_of" (defArgs s__law_of) (defBody s__law_of) (defScope s__law_of) .none kV doc pm an cdv ct) ⟨us, []⟩ = pure ((["_law_tin", "_law_goods_so"] : List Str).zip us) := fun _ _ _ _ _ _ us hl => match us, hl with | [_, _], _ => rfl
theorem hb__law_net : ∀ (kV doc pm : Value) (an : Option Addr) (cdv ct : Value) (us : List Value), us.length = (["_law_tin", "_law_most_so"] : List Str).length → bindArgs (PySem.W.fnOf "_law_net" "_law_net" (defArgs s__law_net) (defBody s__law_net) (defScope s__law_net) .none kV doc pm an cdv ct) ⟨us, []⟩ = pure ((["_law_tin", "_law_most_so"] : List Str).zip us) := fun _ _ _ _ _ _ us hl => match us, hl with | [_, _], _ => rfl
theorem hb__law_lists : ∀ (kV doc pm : Value) (an : Option Addr) (cdv ct : Value) (us : List Value), us.length = (["_law_matter"] : List Str).length → bindArgs (PySem.W.fnOf "_law_lists" "_law_lists" (defArgs s__law_lists) (defBody s__law_lists) (defScope s__law_lists) .none kV doc pm an cdv ct) ⟨us, []⟩ = pure ((["_law_matter"] : List Str).zip us) := fun _ _ _ _ _ _ us hl => match us, hl with | [_], _ => rfl
theorem hb__law_any_tree : ∀ (kV doc pm : Value) (an : Option Addr) (cdv ct : Value) (us : List Value), us.length = (["_law_tin", "_law_net_here"] : List Str).length → bindArgs (PySem.W.fnOf "_law_any_tree" "_law_any_tree" (defArgs s__law_any_tree) (defBody s__law_any_tree) (defScope s__law_any_tree) .none kV doc pm an cdv ct) ⟨us, []⟩ = pure ((["_law_tin", "_law_net_here"] : List Str).zip us) := fun _ _ _ _ _ _ us hl => match us, hl with | [_, _], _ => rfl
theorem hb__law_same : ∀ (kV doc pm : Value) (an : Option Addr) (cdv ct : Value) (us : List Value), us.length = (["_law_got", "_law_due"] : List Str).length → bindArgs (PySem.W.fnOf "_law_same" "_law_same" (defArgs s__law_same) (defBody s__law_same) (defScope s__law_same) .none kV doc pm an cdv ct) ⟨us, []⟩ = pure ((["_law_got", "_law_due"] : List Str).zip us) := fun _ _ _ _ _ _ us hl => match us, hl with | [_, _], _ => rfl
theorem hb__law_way : ∀ (kV doc pm : Value) (an : Option Addr) (cdv ct : Value) (us : List Value), us.length = (["_law_net_here", "_law_boughs", "_law_spot", "_law_goal_so"] : List Str).length → bindArgs (PySem.W.fnOf "_law_way" "_law_way" (defArgs s__law_way) (defBody s__law_way) (defScope s__law_way) .none kV doc pm an cdv ct) ⟨us, []⟩ = pure ((["_law_net_here", "_law_boughs", "_law_spot", "_law_goal_so"] : List Str).zip us) := fun _ _ _ _ _ _ us hl => match us, hl with | [_, _, _, _], _ => rfl
theorem hb_tupled : ∀ (kV doc pm : Value) (an : Option Addr) (cdv ct : Value) (us : List Value), us.length = (["value"] : List Str).length → bindArgs (PySem.W.fnOf "tupled" "tupled" (defArgs s_tupled) (defBody s_tupled) (defScope s_tupled) .none kV doc pm an cdv ct) ⟨us, []⟩ = pure ((["value"] : List Str).zip us) := fun _ _ _ _ _ _ us hl => match us, hl with | [_], _ => rfl
theorem hb_is_number : ∀ (kV doc pm : Value) (an : Option Addr) (cdv ct : Value) (us : List Value), us.length = (["thing"] : List Str).length → bindArgs (PySem.W.fnOf "is_number" "is_number" (defArgs s_is_number) (defBody s_is_number) (defScope s_is_number) .none kV doc pm an cdv ct) ⟨us, []⟩ = pure ((["thing"] : List Str).zip us) := fun _ _ _ _ _ _ us hl => match us, hl with | [_], _ => rfl
theorem hb_is_from : ∀ (kV doc pm : Value) (an : Option Addr) (cdv ct : Value) (us : List Value), us.length = (["thing", "least"] : List Str).length → bindArgs (PySem.W.fnOf "is_from" "is_from" (defArgs s_is_from) (defBody s_is_from) (defScope s_is_from) .none kV doc pm an cdv ct) ⟨us, []⟩ = pure ((["thing", "least"] : List Str).zip us) := fun _ _ _ _ _ _ us hl => match us, hl with | [_, _], _ => rfl
theorem hb_is_long : ∀ (kV doc pm : Value) (an : Option Addr) (cdv ct : Value) (us : List Value), us.length = (["thing", "length"] : List Str).length → bindArgs (PySem.W.fnOf "is_long" "is_long" (defArgs s_is_long) (defBody s_is_long) (defScope s_is_long) .none kV doc pm an cdv ct) ⟨us, []⟩ = pure ((["thing", "length"] : List Str).zip us) := fun _ _ _ _ _ _ us hl => match us, hl with | [_, _], _ => rfl
theorem hb_are_numbers : ∀ (kV doc pm : Value) (an : Option Addr) (cdv ct : Value) (us : List Value), us.length = (["thing"] : List Str).length → bindArgs (PySem.W.fnOf "are_numbers" "are_numbers" (defArgs s_are_numbers) (defBody s_are_numbers) (defScope s_are_numbers) .none kV doc pm an cdv ct) ⟨us, []⟩ = pure ((["thing"] : List Str).zip us) := fun _ _ _ _ _ _ us hl => match us, hl with | [_], _ => rfl
theorem hb_is_pair : ∀ (kV doc pm : Value) (an : Option Addr) (cdv ct : Value) (us : List Value), us.length = (["thing"] : List Str).length → bindArgs (PySem.W.fnOf "is_pair" "is_pair" (defArgs s_is_pair) (defBody s_is_pair) (defScope s_is_pair) .none kV doc pm an cdv ct) ⟨us, []⟩ = pure ((["thing"] : List Str).zip us) := fun _ _ _ _ _ _ us hl => match us, hl with | [_], _ => rfl
theorem hb_is_tie_of : ∀ (kV doc pm : Value) (an : Option Addr) (cdv ct : Value) (us : List Value), us.length = (["many", "number", "thing"] : List Str).length → bindArgs (PySem.W.fnOf "is_tie_of" "is_tie_of" (defArgs s_is_tie_of) (defBody s_is_tie_of) (defScope s_is_tie_of) .none kV doc pm an cdv ct) ⟨us, []⟩ = pure ((["many", "number", "thing"] : List Str).zip us) := fun _ _ _ _ _ _ us hl => match us, hl with | [_, _, _], _ => rfl
theorem hb_marked : ∀ (kV doc pm : Value) (an : Option Addr) (cdv ct : Value) (us : List Value), us.length = (["marks", "many", "tie"] : List Str).length → bindArgs (PySem.W.fnOf "marked" "marked" (defArgs s_marked) (defBody s_marked) (defScope s_marked) .none kV doc pm an cdv ct) ⟨us, []⟩ = pure ((["marks", "many", "tie"] : List Str).zip us) := fun _ _ _ _ _ _ us hl => match us, hl with | [_, _, _], _ => rfl
theorem hb_grown_from : ∀ (kV doc pm : Value) (an : Option Addr) (cdv ct : Value) (us : List Value), us.length = (["marks", "many", "ties"] : List Str).length → bindArgs (PySem.W.fnOf "grown_from" "grown_from" (defArgs s_grown_from) (defBody s_grown_from) (defScope s_grown_from) .none kV doc pm an cdv ct) ⟨us, []⟩ = pure ((["marks", "many", "ties"] : List Str).zip us) := fun _ _ _ _ _ _ us hl => match us, hl with | [_, _, _], _ => rfl
theorem hb_hangs_in : ∀ (kV doc pm : Value) (an : Option Addr) (cdv ct : Value) (us : List Value), us.length = (["many", "number", "ties"] : List Str).length → bindArgs (PySem.W.fnOf "hangs_in" "hangs_in" (defArgs s_hangs_in) (defBody s_hangs_in) (defScope s_hangs_in) .none kV doc pm an cdv ct) ⟨us, []⟩ = pure ((["many", "number", "ties"] : List Str).zip us) := fun _ _ _ _ _ _ us hl => match us, hl with | [_, _, _], _ => rfl
theorem hb_ascends : ∀ (kV doc pm : Value) (an : Option Addr) (cdv ct : Value) (us : List Value), us.length = (["row"] : List Str).length → bindArgs (PySem.W.fnOf "ascends" "ascends" (defArgs s_ascends) (defBody s_ascends) (defScope s_ascends) .none kV doc pm an cdv ct) ⟨us, []⟩ = pure ((["row"] : List Str).zip us) := fun _ _ _ _ _ _ us hl => match us, hl with | [_], _ => rfl
theorem hb_is_web : ∀ (kV doc pm : Value) (an : Option Addr) (cdv ct : Value) (us : List Value), us.length = (["thing"] : List Str).length → bindArgs (PySem.W.fnOf "is_web" "is_web" (defArgs s_is_web) (defBody s_is_web) (defScope s_is_web) .none kV doc pm an cdv ct) ⟨us, []⟩ = pure ((["thing"] : List Str).zip us) := fun _ _ _ _ _ _ us hl => match us, hl with | [_], _ => rfl
theorem hb_sure_web : ∀ (kV doc pm : Value) (an : Option Addr) (cdv ct : Value) (us : List Value), us.length = (["web"] : List Str).length → bindArgs (PySem.W.fnOf "sure_web" "sure_web" (defArgs s_sure_web) (defBody s_sure_web) (defScope s_sure_web) .none kV doc pm an cdv ct) ⟨us, []⟩ = pure ((["web"] : List Str).zip us) := fun _ _ _ _ _ _ us hl => match us, hl with | [_], _ => rfl
theorem hb_is_tree_in : ∀ (kV doc pm : Value) (an : Option Addr) (cdv ct : Value) (us : List Value), us.length = (["web", "thing"] : List Str).length → bindArgs (PySem.W.fnOf "is_tree_in" "is_tree_in" (defArgs s_is_tree_in) (defBody s_is_tree_in) (defScope s_is_tree_in) .none kV doc pm an cdv ct) ⟨us, []⟩ = pure ((["web", "thing"] : List Str).zip us) := fun _ _ _ _ _ _ us hl => match us, hl with | [_, _], _ => rfl
theorem hb_sure_tree : ∀ (kV doc pm : Value) (an : Option Addr) (cdv ct : Value) (us : List Value), us.length = (["web", "tree"] : List Str).length → bindArgs (PySem.W.fnOf "sure_tree" "sure_tree" (defArgs s_sure_tree) (defBody s_sure_tree) (defScope s_sure_tree) .none kV doc pm an cdv ct) ⟨us, []⟩ = pure ((["web", "tree"] : List Str).zip us) := fun _ _ _ _ _ _ us hl => match us, hl with | [_, _], _ => rfl
theorem hb_sure_pair : ∀ (kV doc pm : Value) (an : Option Addr) (cdv ct : Value) (us : List Value), us.length = (["pair"] : List Str).length → bindArgs (PySem.W.fnOf "sure_pair" "sure_pair" (defArgs s_sure_pair) (defBody s_sure_pair) (defScope s_sure_pair) .none kV doc pm an cdv ct) ⟨us, []⟩ = pure ((["pair"] : List Str).zip us) := fun _ _ _ _ _ _ us hl => match us, hl with | [_], _ => rfl
theorem hb_steps_from : ∀ (kV doc pm : Value) (an : Option Addr) (cdv ct : Value) (us : List Value), us.length = (["tree", "place"] : List Str).length → bindArgs (PySem.W.fnOf "steps_from" "steps_from" (defArgs s_steps_from) (defBody s_steps_from) (defScope s_steps_from) .none kV doc pm an cdv ct) ⟨us, []⟩ = pure ((["tree", "place"] : List Str).zip us) := fun _ _ _ _ _ _ us hl => match us, hl with | [_, _], _ => rfl
theorem hb_way_in : ∀ (kV doc pm : Value) (an : Option Addr) (cdv ct : Value) (us : List Value), us.length = (["tree", "place", "other"] : List Str).length → bindArgs (PySem.W.fnOf "way_in" "way_in" (defArgs s_way_in) (defBody s_way_in) (defScope s_way_in) .none kV doc pm an cdv ct) ⟨us, []⟩ = pure ((["tree", "place", "other"] : List Str).zip us) := fun _ _ _ _ _ _ us hl => match us, hl with | [_, _, _], _ => rfl
theorem hb_is_within : ∀ (kV doc pm : Value) (an : Option Addr) (cdv ct : Value) (us : List Value), us.length = (["thing", "least", "most"] : List Str).length → bindArgs (PySem.W.fnOf "is_within" "is_within" (defArgs s_is_within) (defBody s_is_within) (defScope s_is_within) .none kV doc pm an cdv ct) ⟨us, []⟩ = pure ((["thing", "least", "most"] : List Str).zip us) := fun _ _ _ _ _ _ us hl => match us, hl with | [_, _, _], _ => rfl
theorem hb_is_place_in : ∀ (kV doc pm : Value) (an : Option Addr) (cdv ct : Value) (us : List Value), us.length = (["web", "thing"] : List Str).length → bindArgs (PySem.W.fnOf "is_place_in" "is_place_in" (defArgs s_is_place_in) (defBody s_is_place_in) (defScope s_is_place_in) .none kV doc pm an cdv ct) ⟨us, []⟩ = pure ((["web", "thing"] : List Str).zip us) := fun _ _ _ _ _ _ us hl => match us, hl with | [_, _], _ => rfl
theorem hb_sure_place : ∀ (kV doc pm : Value) (an : Option Addr) (cdv ct : Value) (us : List Value), us.length = (["web", "place"] : List Str).length → bindArgs (PySem.W.fnOf "sure_place" "sure_place" (defArgs s_sure_place) (defBody s_sure_place) (defScope s_sure_place) .none kV doc pm an cdv ct) ⟨us, []⟩ = pure ((["web", "place"] : List Str).zip us) := fun _ _ _ _ _ _ us hl => match us, hl with | [_, _], _ => rfl
theorem hb_way : ∀ (kV doc pm : Value) (an : Option Addr) (cdv ct : Value) (us : List Value), us.length = (["web", "tree", "place", "other"] : List Str).length → bindArgs (PySem.W.fnOf "way" "way" (defArgs s_way) (defBody s_way) (defScope s_way) .none kV doc pm an cdv ct) ⟨us, []⟩ = pure ((["web", "tree", "place", "other"] : List Str).zip us) := fun _ _ _ _ _ _ us hl => match us, hl with | [_, _, _, _], _ => rfl
theorem hb__law_walked : ∀ (kV doc pm : Value) (an : Option Addr) (cdv ct : Value) (us : List Value), us.length = (["_law_boughs", "_law_spot"] : List Str).length → bindArgs (PySem.W.fnOf "_law_walked" "_law_walked" (defArgs s__law_walked) (defBody s__law_walked) (defScope s__law_walked) .none kV doc pm an cdv ct) ⟨us, []⟩ = pure ((["_law_boughs", "_law_spot"] : List Str).zip us) := fun _ _ _ _ _ _ us hl => match us, hl with | [_, _], _ => rfl
theorem hb_ties_by : ∀ (kV doc pm : Value) (an : Option Addr) (cdv ct : Value) (us : List Value), us.length = (["web", "place"] : List Str).length → bindArgs (PySem.W.fnOf "ties_by" "ties_by" (defArgs s_ties_by) (defBody s_ties_by) (defScope s_ties_by) .none kV doc pm an cdv ct) ⟨us, []⟩ = pure ((["web", "place"] : List Str).zip us) := fun _ _ _ _ _ _ us hl => match us, hl with | [_, _], _ => rfl
theorem hb_ends_of : ∀ (kV doc pm : Value) (an : Option Addr) (cdv ct : Value) (us : List Value), us.length = (["web", "tree"] : List Str).length → bindArgs (PySem.W.fnOf "ends_of" "ends_of" (defArgs s_ends_of) (defBody s_ends_of) (defScope s_ends_of) .none kV doc pm an cdv ct) ⟨us, []⟩ = pure ((["web", "tree"] : List Str).zip us) := fun _ _ _ _ _ _ us hl => match us, hl with | [_, _], _ => rfl
theorem hb_sure_side : ∀ (kV doc pm : Value) (an : Option Addr) (cdv ct : Value) (us : List Value), us.length = (["side"] : List Str).length → bindArgs (PySem.W.fnOf "sure_side" "sure_side" (defArgs s_sure_side) (defBody s_sure_side) (defScope s_sure_side) .none kV doc pm an cdv ct) ⟨us, []⟩ = pure ((["side"] : List Str).zip us) := fun _ _ _ _ _ _ us hl => match us, hl with | [_], _ => rfl
theorem hb_sure_tie : ∀ (kV doc pm : Value) (an : Option Addr) (cdv ct : Value) (us : List Value), us.length = (["web", "tie"] : List Str).length → bindArgs (PySem.W.fnOf "sure_tie" "sure_tie" (defArgs s_sure_tie) (defBody s_sure_tie) (defScope s_sure_tie) .none kV doc pm an cdv ct) ⟨us, []⟩ = pure ((["web", "tie"] : List Str).zip us) := fun _ _ _ _ _ _ us hl => match us, hl with | [_, _], _ => rfl
theorem hb_part_in : ∀ (kV doc pm : Value) (an : Option Addr) (cdv ct : Value) (us : List Value), us.length = (["web", "tree", "tie", "side"] : List Str).length → bindArgs (PySem.W.fnOf "part_in" "part_in" (defArgs s_part_in) (defBody s_part_in) (defScope s_part_in) .none kV doc pm an cdv ct) ⟨us, []⟩ = pure ((["web", "tree", "tie", "side"] : List Str).zip us) := fun _ _ _ _ _ _ us hl => match us, hl with | [_, _, _, _], _ => rfl
theorem hb_part : ∀ (kV doc pm : Value) (an : Option Addr) (cdv ct : Value) (us : List Value), us.length = (["web", "tree", "tie", "side"] : List Str).length → bindArgs (PySem.W.fnOf "part" "part" (defArgs s_part) (defBody s_part) (defScope s_part) .none kV doc pm an cdv ct) ⟨us, []⟩ = pure ((["web", "tree", "tie", "side"] : List Str).zip us) := fun _ _ _ _ _ _ us hl => match us, hl with | [_, _, _, _], _ => rfl
theorem hb_closes : ∀ (kV doc pm : Value) (an : Option Addr) (cdv ct : Value) (us : List Value), us.length = (["web", "tree", "tie"] : List Str).length → bindArgs (PySem.W.fnOf "closes" "closes" (defArgs s_closes) (defBody s_closes) (defScope s_closes) .none kV doc pm an cdv ct) ⟨us, []⟩ = pure ((["web", "tree", "tie"] : List Str).zip us) := fun _ _ _ _ _ _ us hl => match us, hl with | [_, _, _], _ => rfl
theorem hb_changed : ∀ (kV doc pm : Value) (an : Option Addr) (cdv ct : Value) (us : List Value), us.length = (["web", "tree", "put", "out"] : List Str).length → bindArgs (PySem.W.fnOf "changed" "changed" (defArgs s_changed) (defBody s_changed) (defScope s_changed) .none kV doc pm an cdv ct) ⟨us, []⟩ = pure ((["web", "tree", "put", "out"] : List Str).zip us) := fun _ _ _ _ _ _ us hl => match us, hl with | [_, _, _, _], _ => rfl
theorem hb__law_heard : ∀ (kV doc pm : Value) (an : Option Addr) (cdv ct : Value) (us : List Value), us.length = (["_law_door", "_law_net_here", "_law_boughs", "_law_one", "_law_two"] : List Str).length → bindArgs (PySem.W.fnOf "_law_heard" "_law_heard" (defArgs s__law_heard) (defBody s__law_heard) (defScope s__law_heard) .none kV doc pm an cdv ct) ⟨us, []⟩ = pure ((["_law_door", "_law_net_here", "_law_boughs", "_law_one", "_law_two"] : List Str).zip us) := fun _ _ _ _ _ _ us hl => match us, hl with | [_, _, _, _, _], _ => rfl
theorem hb__law_marks : ∀ (kV doc pm : Value) (an : Option Addr) (cdv ct : Value) (us : List Value), us.length = (["_law_many_so", "_law_pairs_so"] : List Str).length → bindArgs (PySem.W.fnOf "_law_marks" "_law_marks" (defArgs s__law_marks) (defBody s__law_marks) (defScope s__law_marks) .none kV doc pm an cdv ct) ⟨us, []⟩ = pure ((["_law_many_so", "_law_pairs_so"] : List Str).zip us) := fun _ _ _ _ _ _ us hl => match us, hl with | [_, _], _ => rfl
theorem hb__law_hangs : ∀ (kV doc pm : Value) (an : Option Addr) (cdv ct : Value) (us : List Value), us.length = (["_law_net_here", "_law_bonds_so"] : List Str).length → bindArgs (PySem.W.fnOf "_law_hangs" "_law_hangs" (defArgs s__law_hangs) (defBody s__law_hangs) (defScope s__law_hangs) .none kV doc pm an cdv ct) ⟨us, []⟩ = pure ((["_law_net_here", "_law_bonds_so"] : List Str).zip us) := fun _ _ _ _ _ _ us hl => match us, hl with | [_, _], _ => rfl
theorem hb_is_tree : ∀ (kV doc pm : Value) (an : Option Addr) (cdv ct : Value) (us : List Value), us.length = (["web", "thing"] : List Str).length → bindArgs (PySem.W.fnOf "is_tree" "is_tree" (defArgs s_is_tree) (defBody s_is_tree) (defScope s_is_tree) .none kV doc pm an cdv ct) ⟨us, []⟩ = pure ((["web", "thing"] : List Str).zip us) := fun _ _ _ _ _ _ us hl => match us, hl with | [_, _], _ => rfl
theorem hb__law_right : ∀ (kV doc pm : Value) (an : Option Addr) (cdv ct : Value) (us : List Value), us.length = (["_law_tin"] : List Str).length → bindArgs (PySem.W.fnOf "_law_right" "_law_right" (defArgs s__law_right) (defBody s__law_right) (defScope s__law_right) .none kV doc pm an cdv ct) ⟨us, []⟩ = pure ((["_law_tin"] : List Str).zip us) := fun _ _ _ _ _ _ us hl => match us, hl with | [_], _ => rfl
theorem hb__law_box : ∀ (kV doc pm : Value) (an : Option Addr) (cdv ct : Value) (us : List Value), us.length = (["_law_script", "_law_k"] : List Str).length → bindArgs (PySem.W.fnOf "_law_box" "_law_box" (defArgs s__law_box) (defBody s__law_box) (defScope s__law_box) .none kV doc pm an cdv ct) ⟨us, []⟩ = pure ((["_law_script", "_law_k"] : List Str).zip us) := fun _ _ _ _ _ _ us hl => match us, hl with | [_, _], _ => rfl
theorem hb__law_cells : ∀ (kV doc pm : Value) (an : Option Addr) (cdv ct : Value) (us : List Value), us.length = (["_law_script", "_law_most_so"] : List Str).length → bindArgs (PySem.W.fnOf "_law_cells" "_law_cells" (defArgs s__law_cells) (defBody s__law_cells) (defScope s__law_cells) .none kV doc pm an cdv ct) ⟨us, []⟩ = pure ((["_law_script", "_law_most_so"] : List Str).zip us) := fun _ _ _ _ _ _ us hl => match us, hl with | [_, _], _ => rfl
theorem hb__law_house_tree : ∀ (kV doc pm : Value) (an : Option Addr) (cdv ct : Value) (us : List Value), us.length = ([] : List Str).length → bindArgs (PySem.W.fnOf "_law_house_tree" "_law_house_tree" (defArgs s__law_house_tree) (defBody s__law_house_tree) (defScope s__law_house_tree) .none kV doc pm an cdv ct) ⟨us, []⟩ = pure (([] : List Str).zip us) := fun _ _ _ _ _ _ us hl => match us, hl with | [], _ => rfl
theorem hb__law_house : ∀ (kV doc pm : Value) (an : Option Addr) (cdv ct : Value) (us : List Value), us.length = ([] : List Str).length → bindArgs (PySem.W.fnOf "_law_house" "_law_house" (defArgs s__law_house) (defBody s__law_house) (defScope s__law_house) .none kV doc pm an cdv ct) ⟨us, []⟩ = pure (([] : List Str).zip us) := fun _ _ _ _ _ _ us hl => match us, hl with | [], _ => rfl
theorem hb__law_ring : ∀ (kV doc pm : Value) (an : Option Addr) (cdv ct : Value) (us : List Value), us.length = (["_law_many_so"] : List Str).length → bindArgs (PySem.W.fnOf "_law_ring" "_law_ring" (defArgs s__law_ring) (defBody s__law_ring) (defScope s__law_ring) .none kV doc pm an cdv ct) ⟨us, []⟩ = pure ((["_law_many_so"] : List Str).zip us) := fun _ _ _ _ _ _ us hl => match us, hl with | [_], _ => rfl
theorem hb__law_hand_right : ∀ (kV doc pm : Value) (an : Option Addr) (cdv ct : Value) (us : List Value), us.length = ([] : List Str).length → bindArgs (PySem.W.fnOf "_law_hand_right" "_law_hand_right" (defArgs s__law_hand_right) (defBody s__law_hand_right) (defScope s__law_hand_right) .none kV doc pm an cdv ct) ⟨us, []⟩ = pure (([] : List Str).zip us) := fun _ _ _ _ _ _ us hl => match us, hl with | [], _ => rfl
theorem hb_law : ∀ (kV doc pm : Value) (an : Option Addr) (cdv ct : Value) (us : List Value), us.length = (["_law_script"] : List Str).length → bindArgs (PySem.W.fnOf "law" "law" (defArgs s_law) (defBody s_law) (defScope s_law) .none kV doc pm an cdv ct) ⟨us, []⟩ = pure ((["_law_script"] : List Str).zip us) := fun _ _ _ _ _ _ us hl => match us, hl with | [_], _ => rfl
theorem all_ok {P : Program} {w : World} {K : PySem.W.Frag} {mg : Str → Option Value} {base : Heap} {C : Addr} (B0 : Bi mg) (C0 : CanNot K mg C) (d__law_take : Dfx K mg "_law_take" s__law_take ["_law_tin", "_law_below_so"]) (d__law_pick : Dfx K mg "_law_pick" s__law_pick ["_law_tin", "_law_goods_so", "_law_count_so"]) (d__law_of : Dfx K mg "_law_of" s__law_of ["_law_tin", "_law_goods_so"]) (d__law_net : Dfx K mg "_law_net" s__law_net ["_law_tin", "_law_most_so"]) (d__law_lists : Dfx K mg "_law_lists" s__law_lists ["_law_matter"]) (d__law_any_tree : Dfx K mg "_law_any_tree" s__law_any_tree ["_law_tin", "_law_net_here"]) (d__law_same : Dfx K mg "_law_same" s__law_same ["_law_got", "_law_due"]) (d__law_way : Dfx K mg "_law_way" s__law_way ["_law_net_here", "_law_boughs", "_law_spot", "_law_goal_so"]) (d_tupled : Dfx K mg "tupled" s_tupled ["value"]) (d_is_number : Dfx K mg "is_number" s_is_number ["thing"]) (d_is_from : Dfx K mg "is_from" s_is_from ["thing", "least"]) (d_is_long : Dfx K mg "is_long" s_is_long ["thing", "length"]) (d_are_numbers : Dfx K mg "are_numbers" s_are_numbers ["thing"]) (d_is_pair : Dfx K mg "is_pair" s_is_pair ["thing"]) (d_is_tie_of : Dfx K mg "is_tie_of" s_is_tie_of ["many", "number", "thing"]) (d_marked : Dfx K mg "marked" s_marked ["marks", "many", "tie"]) (d_grown_from : Dfx K mg "grown_from" s_grown_from ["marks", "many", "ties"]) (d_hangs_in : Dfx K mg "hangs_in" s_hangs_in ["many", "number", "ties"]) (d_ascends : Dfx K mg "ascends" s_ascends ["row"]) (d_is_web : Dfx K mg "is_web" s_is_web ["thing"]) (d_sure_web : Dfx K mg "sure_web" s_sure_web ["web"]) (d_is_tree_in : Dfx K mg "is_tree_in" s_is_tree_in ["web", "thing"]) (d_sure_tree : Dfx K mg "sure_tree" s_sure_tree ["web", "tree"]) (d_sure_pair : Dfx K mg "sure_pair" s_sure_pair ["pair"]) (d_steps_from : Dfx K mg "steps_from" s_steps_from ["tree", "place"]) (d_way_in : Dfx K mg "way_in" s_way_in ["tree", "place", "other"]) (d_is_within : Dfx K mg "is_within" s_is_within ["thing", "least", "most"]) (d_is_place_in : Dfx K mg "is_place_in" s_is_place_in ["web", "thing"]) (d_sure_place : Dfx K mg "sure_place" s_sure_place ["web", "place"]) (d_way : Dfx K mg "way" s_way ["web", "tree", "place", "other"]) (d__law_walked : Dfx K mg "_law_walked" s__law_walked ["_law_boughs", "_law_spot"]) (d_ties_by : Dfx K mg "ties_by" s_ties_by ["web", "place"]) (d_ends_of : Dfx K mg "ends_of" s_ends_of ["web", "tree"]) (d_sure_side : Dfx K mg "sure_side" s_sure_side ["side"]) (d_sure_tie : Dfx K mg "sure_tie" s_sure_tie ["web", "tie"]) (d_part_in : Dfx K mg "part_in" s_part_in ["web", "tree", "tie", "side"]) (d_part : Dfx K mg "part" s_part ["web", "tree", "tie", "side"]) (d_closes : Dfx K mg "closes" s_closes ["web", "tree", "tie"]) (d_changed : Dfx K mg "changed" s_changed ["web", "tree", "put", "out"]) (d__law_heard : Dfx K mg "_law_heard" s__law_heard ["_law_door", "_law_net_here", "_law_boughs", "_law_one", "_law_two"]) (d__law_marks : Dfx K mg "_law_marks" s__law_marks ["_law_many_so", "_law_pairs_so"]) (d__law_hangs : Dfx K mg "_law_hangs" s__law_hangs ["_law_net_here", "_law_bonds_so"]) (d_is_tree : Dfx K mg "is_tree" s_is_tree ["web", "thing"]) (d__law_right : Dfx K mg "_law_right" s__law_right ["_law_tin"]) (d__law_box : Dfx K mg "_law_box" s__law_box ["_law_script", "_law_k"]) (d__law_cells : Dfx K mg "_law_cells" s__law_cells ["_law_script", "_law_most_so"]) (d__law_house_tree : Dfx K mg "_law_house_tree" s__law_house_tree []) (d__law_house : Dfx K mg "_law_house" s__law_house []) (d__law_ring : Dfx K mg "_law_ring" s__law_ring ["_law_many_so"]) (d__law_hand_right : Dfx K mg "_law_hand_right" s__law_hand_right []) (d_law : Dfx K mg "law" s_law ["_law_script"]) :
    Cal P w K mg base CX0 10 "law" s_law ["_law_script"] (sp_law K) := by
  have c__law_take : Cal P w K mg base CX0 1 "_law_take" s__law_take ["_law_tin", "_law_below_so"] sp__law_take := ok__law_take B0  d__law_take
  have c__law_pick : Cal P w K mg base CX0 2 "_law_pick" s__law_pick ["_law_tin", "_law_goods_so", "_law_count_so"] sp__law_pick := ok__law_pick B0 (c__law_take := c__law_take) d__law_pick
  have c__law_of : Cal P w K mg base CX0 2 "_law_of" s__law_of ["_law_tin", "_law_goods_so"] sp__law_of := ok__law_of B0 (c__law_take := c__law_take) d__law_of
  have c__law_net : Cal P w K mg base CX0 3 "_law_net" s__law_net ["_law_tin", "_law_most_so"] sp__law_net := ok__law_net B0 (c__law_take := c__law_take) (c__law_pick := c__law_pick) (c__law_of := c__law_of) d__law_net
  have c__law_lists : Cal P w K mg base CX0 4 "_law_lists" s__law_lists ["_law_matter"] sp__law_lists := ok__law_lists B0  d__law_lists
  have c__law_any_tree : Cal P w K mg base CX0 3 "_law_any_tree" s__law_any_tree ["_law_tin", "_law_net_here"] sp__law_any_tree := ok__law_any_tree B0 (c__law_pick := c__law_pick) d__law_any_tree
  have c__law_same : Cal P w K mg base CX0 6 "_law_same" s__law_same ["_law_got", "_law_due"] sp__law_same := ok__law_same B0  d__law_same
  have c__law_way : Cal P w K mg base CX0 1 "_law_way" s__law_way ["_law_net_here", "_law_boughs", "_law_spot", "_law_goal_so"] sp__law_way := ok__law_way B0  d__law_way
  have c_tupled : Cal P w K mg base CX0 4 "tupled" s_tupled ["value"] sp_tupled := ok_tupled B0  d_tupled
  have c_is_number : Cal P w K mg base CX0 1 "is_number" s_is_number ["thing"] sp_is_number := ok_is_number B0  d_is_number
  have c_is_from : Cal P w K mg base CX0 2 "is_from" s_is_from ["thing", "least"] sp_is_from := ok_is_from B0 (c_is_number := c_is_number) d_is_from
  have c_is_long : Cal P w K mg base CX0 1 "is_long" s_is_long ["thing", "length"] sp_is_long := ok_is_long B0  d_is_long
  have c_are_numbers : Cal P w K mg base CX0 2 "are_numbers" s_are_numbers ["thing"] sp_are_numbers := ok_are_numbers B0 (c_is_number := c_is_number) d_are_numbers
  have c_is_pair : Cal P w K mg base CX0 3 "is_pair" s_is_pair ["thing"] sp_is_pair := ok_is_pair B0 (c_are_numbers := c_are_numbers) (c_is_long := c_is_long) d_is_pair
  have c_is_tie_of : Cal P w K mg base CX0 4 "is_tie_of" s_is_tie_of ["many", "number", "thing"] sp_is_tie_of := ok_is_tie_of B0 (c_is_pair := c_is_pair) d_is_tie_of
  have c_marked : Cal P w K mg base CX0 1 "marked" s_marked ["marks", "many", "tie"] sp_marked := ok_marked B0  d_marked
  have c_grown_from : Cal P w K mg base CX0 2 "grown_from" s_grown_from ["marks", "many", "ties"] sp_grown_from := ok_grown_from B0 (c_marked := c_marked) d_grown_from
  have c_hangs_in : Cal P w K mg base CX0 3 "hangs_in" s_hangs_in ["many", "number", "ties"] sp_hangs_in := ok_hangs_in B0 (c_grown_from := c_grown_from) d_hangs_in
  have c_ascends : Cal P w K mg base CX0 1 "ascends" s_ascends ["row"] sp_ascends := ok_ascends B0  d_ascends
  have c_is_web : Cal P w K mg base CX0 5 "is_web" s_is_web ["thing"] sp_is_web := ok_is_web B0 (c_is_from := c_is_from) (c_is_long := c_is_long) (c_is_tie_of := c_is_tie_of) (c_hangs_in := c_hangs_in) (c_ascends := c_ascends) d_is_web
  have c_sure_web : Cal P w K mg base CX0 6 "sure_web" s_sure_web ["web"] sp_sure_web := ok_sure_web B0 (c_tupled := c_tupled) (c_is_web := c_is_web) d_sure_web
  have c_is_tree_in : Cal P w K mg base CX0 4 "is_tree_in" s_is_tree_in ["web", "thing"] sp_is_tree_in := ok_is_tree_in B0 (c_is_pair := c_is_pair) (c_hangs_in := c_hangs_in) (c_ascends := c_ascends) d_is_tree_in
  have c_sure_tree : Cal P w K mg base CX0 5 "sure_tree" s_sure_tree ["web", "tree"] sp_sure_tree := ok_sure_tree B0 (c_tupled := c_tupled) (c_is_tree_in := c_is_tree_in) d_sure_tree
  have c_sure_pair : Cal P w K mg base CX0 5 "sure_pair" s_sure_pair ["pair"] sp_sure_pair := ok_sure_pair B0 (c_tupled := c_tupled) (c_is_pair := c_is_pair) d_sure_pair
  have c_steps_from : Cal P w K mg base CX0 1 "steps_from" s_steps_from ["tree", "place"] sp_steps_from := ok_steps_from B0  d_steps_from
  have c_way_in : Cal P w K mg base CX0 2 "way_in" s_way_in ["tree", "place", "other"] sp_way_in := ok_way_in B0 (c_steps_from := c_steps_from) d_way_in
  have c_is_within : Cal P w K mg base CX0 2 "is_within" s_is_within ["thing", "least", "most"] sp_is_within := ok_is_within B0 (c_is_number := c_is_number) d_is_within
  have c_is_place_in : Cal P w K mg base CX0 4 "is_place_in" s_is_place_in ["web", "thing"] sp_is_place_in := ok_is_place_in B0 (c_is_within := c_is_within) (c_is_pair := c_is_pair) d_is_place_in
  have c_sure_place : Cal P w K mg base CX0 6 "sure_place" s_sure_place ["web", "place"] sp_sure_place := ok_sure_place B0 (c_sure_pair := c_sure_pair) (c_is_place_in := c_is_place_in) d_sure_place
  have c_way : Cal P w K mg base CX0 7 "way" s_way ["web", "tree", "place", "other"] sp_way := ok_way B0 (c_sure_web := c_sure_web) (c_sure_tree := c_sure_tree) (c_sure_pair := c_sure_pair) (c_way_in := c_way_in) (c_sure_place := c_sure_place) d_way
  have c__law_walked : Cal P w K mg base CX0 1 "_law_walked" s__law_walked ["_law_boughs", "_law_spot"] sp__law_walked := ok__law_walked B0  d__law_walked
  have c_ties_by : Cal P w K mg base CX0 1 "ties_by" s_ties_by ["web", "place"] sp_ties_by := ok_ties_by B0  d_ties_by
  have c_ends_of : Cal P w K mg base CX0 7 "ends_of" s_ends_of ["web", "tree"] sp_ends_of := ok_ends_of B0 (c_sure_web := c_sure_web) (c_sure_tree := c_sure_tree) (c_steps_from := c_steps_from) (c_ties_by := c_ties_by) d_ends_of
  have c_sure_side : Cal P w K mg base CX0 3 "sure_side" s_sure_side ["side"] sp_sure_side := ok_sure_side B0 (c_is_within := c_is_within) d_sure_side
  have c_sure_tie : Cal P w K mg base CX0 6 "sure_tie" s_sure_tie ["web", "tie"] sp_sure_tie := ok_sure_tie B0 (c_sure_pair := c_sure_pair) d_sure_tie
  have c_part_in : Cal P w K mg base CX0 2 "part_in" s_part_in ["web", "tree", "tie", "side"] sp_part_in := ok_part_in B0 (c_steps_from := c_steps_from) d_part_in
  have c_part : Cal P w K mg base (L2.CX P w) 7 "part" s_part ["web", "tree", "tie", "side"] (sp_part C) := ok_part B0 C0 (c_sure_web := c_sure_web) (c_sure_tree := c_sure_tree) (c_sure_pair := c_sure_pair) (c_sure_side := c_sure_side) (c_sure_tie := c_sure_tie) (c_part_in := c_part_in) d_part
  have c_closes : Cal P w K mg base (L2.CX P w) 7 "closes" s_closes ["web", "tree", "tie"] (sp_closes C) := ok_closes B0 C0 (c_sure_web := c_sure_web) (c_sure_tree := c_sure_tree) (c_sure_tie := c_sure_tie) (c_way_in := c_way_in) d_closes
  have c_changed : Cal P w K mg base (L2.CX P w) 7 "changed" s_changed ["web", "tree", "put", "out"] (sp_changed C) := ok_changed B0 C0 (c_sure_web := c_sure_web) (c_sure_tree := c_sure_tree) (c_sure_pair := c_sure_pair) (c_sure_tie := c_sure_tie) (c_way_in := c_way_in) d_changed
  have c__law_heard : Cal P w K mg base CX0 8 "_law_heard" s__law_heard ["_law_door", "_law_net_here", "_law_boughs", "_law_one", "_law_two"] sp__law_heard := ok__law_heard B0 C0 (c_part := c_part) (c_closes := c_closes) (c_changed := c_changed) d__law_heard
  have c__law_marks : Cal P w K mg base CX0 1 "_law_marks" s__law_marks ["_law_many_so", "_law_pairs_so"] sp__law_marks := ok__law_marks B0  d__law_marks
  have c__law_hangs : Cal P w K mg base CX0 2 "_law_hangs" s__law_hangs ["_law_net_here", "_law_bonds_so"] sp__law_hangs := ok__law_hangs B0 (c__law_marks := c__law_marks) d__law_hangs
  have c_is_tree : Cal P w K mg base CX0 7 "is_tree" s_is_tree ["web", "thing"] sp_is_tree := ok_is_tree B0 (c_is_tree_in := c_is_tree_in) (c_sure_web := c_sure_web) d_is_tree
  have c__law_right : Cal P w K mg base CX0 9 "_law_right" s__law_right ["_law_tin"] sp__law_right := ok__law_right B0 (c__law_net := c__law_net) (c__law_lists := c__law_lists) (c__law_any_tree := c__law_any_tree) (c__law_of := c__law_of) (c__law_same := c__law_same) (c__law_way := c__law_way) (c_way := c_way) (c__law_take := c__law_take) (c__law_walked := c__law_walked) (c_ends_of := c_ends_of) (c__law_heard := c__law_heard) (c__law_hangs := c__law_hangs) (c_is_tree := c_is_tree) d__law_right
  have c__law_box : Cal P w K mg base CX0 1 "_law_box" s__law_box ["_law_script", "_law_k"] sp__law_box := ok__law_box B0  d__law_box
  have c__law_cells : Cal P w K mg base CX0 1 "_law_cells" s__law_cells ["_law_script", "_law_most_so"] (sp__law_cells K) := ok__law_cells B0  d__law_cells
  have c__law_house_tree : Cal P w K mg base CX0 1 "_law_house_tree" s__law_house_tree [] sp__law_house_tree := ok__law_house_tree B0  d__law_house_tree
  have c__law_house : Cal P w K mg base CX0 1 "_law_house" s__law_house [] sp__law_house := ok__law_house B0  d__law_house
  have c__law_ring : Cal P w K mg base CX0 1 "_law_ring" s__law_ring ["_law_many_so"] sp__law_ring := ok__law_ring B0  d__law_ring
  have c__law_hand_right : Cal P w K mg base CX0 9 "_law_hand_right" s__law_hand_right [] sp__law_hand_right := ok__law_hand_right B0 (c__law_house_tree := c__law_house_tree) (c__law_house := c__law_house) (c_way := c_way) (c_ends_of := c_ends_of) (c__law_heard := c__law_heard) (c__law_ring := c__law_ring) (c__law_same := c__law_same) d__law_hand_right
  have c_law : Cal P w K mg base CX0 10 "law" s_law ["_law_script"] (sp_law K) := ok_law B0 (c__law_right := c__law_right) (c__law_box := c__law_box) (c__law_cells := c__law_cells) (c__law_hand_right := c__law_hand_right) d_law
  exact c_law
theorem all_mk {P : Program} {w : World} {K : PySem.W.Frag} {h : Heap} {mg : Str → Option Value} {fa C : Addr} (X : K.In h) (GG : h.Ns mainGlobals mg) (hfa : mg "law" = some (.ref fa))
    (z_isinstance : PySem.W.nsIn K mainGlobals "isinstance" = some none) (z_int : PySem.W.nsIn K mainGlobals "int" = some none) (z_bool : PySem.W.nsIn K mainGlobals "bool" = some none) (z_str : PySem.W.nsIn K mainGlobals "str" = some none) (z_list : PySem.W.nsIn K mainGlobals "list" = some none) (z_tuple : PySem.W.nsIn K mainGlobals "tuple" = some none) (z_set : PySem.W.nsIn K mainGlobals "set" = some none) (z_len : PySem.W.nsIn K mainGlobals "len" = some none) (z_all : PySem.W.nsIn K mainGlobals "all" = some none) (z_abs : PySem.W.nsIn K mainGlobals "abs" = some none) (z_min : PySem.W.nsIn K mainGlobals "min" = some none) (z_max : PySem.W.nsIn K mainGlobals "max" = some none) (z_range : PySem.W.nsIn K mainGlobals "range" = some none) (z_zip : PySem.W.nsIn K mainGlobals "zip" = some none) (z_enumerate : PySem.W.nsIn K mainGlobals "enumerate" = some none) (z_sorted : PySem.W.nsIn K mainGlobals "sorted" = some none) (z_ValueError : PySem.W.nsIn K mainGlobals "ValueError" = some none)
    (xa : PySem.W.nsIn K mainGlobals "CanNot" = some (some (.ref C))) (xx : PySem.W.excIn K C [.type "ValueError", .type "Exception", .type "BaseException", .type "object"] "ValueError.__new__" = true) (xk : PySem.W.keepIn K (.ref C) = true) (xb : PySem.W.subIn K (.ref C) (.type "BaseException") = some true) (xt : PySem.W.typeIn K (.ref C) = some (.type "type"))
    (xs : PySem.W.subIn K (.ref C) (.ref C) = some true) (xg : PySem.W.findIn K (.ref C) "__getattribute__" = some (some (.builtin "BaseException.__getattribute__"))) (xn : PySem.W.findIn K (.ref C) "__getattr__" = some none) (xd : PySem.W.hasDictIn K C = true)
    (xc : PySem.W.findIn K (.ref C) "__class__" = some (some (.builtin "object.__class__"))) (xp : PySem.W.specialIn K (.builtin "object.__class__") "__get__" = some (some (.builtin "getset_descriptor.__get__"))) (xi : PySem.W.takesIn K (.builtin "object.__class__") = some true)
    (xm : PySem.W.mroIn K C (.type "object") = some true) (xq : PySem.W.subIn K (.ref C) (.type "ValueError") = some true)
    {f0 : Addr} {oc0 kV0 dc0 pm0 cd0 ct0 : Value} {od0 an0 : Option Addr} {sl0 : Array (Option Value)} (a0 : PySem.W.nsIn K mainGlobals "_law_take" = some (some (.ref f0))) (l0 : K.lookup f0 = some ⟨oc0, od0, .func (PySem.W.fnOf "_law_take" "_law_take" (defArgs s__law_take) (defBody s__law_take) (defScope s__law_take) .none kV0 dc0 pm0 an0 cd0 ct0), sl0⟩) (c0 : PySem.W.codeIn K cd0 "_law_take" = true) (k0 : PySem.W.keepIn K (.ref f0) = true)
    {f1 : Addr} {oc1 kV1 dc1 pm1 cd1 ct1 : Value} {od1 an1 : Option Addr} {sl1 : Array (Option Value)} (a1 : PySem.W.nsIn K mainGlobals "_law_pick" = some (some (.ref f1))) (l1 : K.lookup f1 = some ⟨oc1, od1, .func (PySem.W.fnOf "_law_pick" "_law_pick" (defArgs s__law_pick) (defBody s__law_pick) (defScope s__law_pick) .none kV1 dc1 pm1 an1 cd1 ct1), sl1⟩) (c1 : PySem.W.codeIn K cd1 "_law_pick" = true) (k1 : PySem.W.keepIn K (.ref f1) = true)
    {f2 : Addr} {oc2 kV2 dc2 pm2 cd2 ct2 : Value} {od2 an2 : Option Addr} {sl2 : Array (Option Value)} (a2 : PySem.W.nsIn K mainGlobals "_law_of" = some (some (.ref f2))) (l2 : K.lookup f2 = some ⟨oc2, od2, .func (PySem.W.fnOf "_law_of" "_law_of" (defArgs s__law_of) (defBody s__law_of) (defScope s__law_of) .none kV2 dc2 pm2 an2 cd2 ct2), sl2⟩) (c2 : PySem.W.codeIn K cd2 "_law_of" = true) (k2 : PySem.W.keepIn K (.ref f2) = true)
    {f3 : Addr} {oc3 kV3 dc3 pm3 cd3 ct3 : Value} {od3 an3 : Option Addr} {sl3 : Array (Option Value)} (a3 : PySem.W.nsIn K mainGlobals "_law_net" = some (some (.ref f3))) (l3 : K.lookup f3 = some ⟨oc3, od3, .func (PySem.W.fnOf "_law_net" "_law_net" (defArgs s__law_net) (defBody s__law_net) (defScope s__law_net) .none kV3 dc3 pm3 an3 cd3 ct3), sl3⟩) (c3 : PySem.W.codeIn K cd3 "_law_net" = true) (k3 : PySem.W.keepIn K (.ref f3) = true)
    {f4 : Addr} {oc4 kV4 dc4 pm4 cd4 ct4 : Value} {od4 an4 : Option Addr} {sl4 : Array (Option Value)} (a4 : PySem.W.nsIn K mainGlobals "_law_lists" = some (some (.ref f4))) (l4 : K.lookup f4 = some ⟨oc4, od4, .func (PySem.W.fnOf "_law_lists" "_law_lists" (defArgs s__law_lists) (defBody s__law_lists) (defScope s__law_lists) .none kV4 dc4 pm4 an4 cd4 ct4), sl4⟩) (c4 : PySem.W.codeIn K cd4 "_law_lists" = true) (k4 : PySem.W.keepIn K (.ref f4) = true)
    {f5 : Addr} {oc5 kV5 dc5 pm5 cd5 ct5 : Value} {od5 an5 : Option Addr} {sl5 : Array (Option Value)} (a5 : PySem.W.nsIn K mainGlobals "_law_any_tree" = some (some (.ref f5))) (l5 : K.lookup f5 = some ⟨oc5, od5, .func (PySem.W.fnOf "_law_any_tree" "_law_any_tree" (defArgs s__law_any_tree) (defBody s__law_any_tree) (defScope s__law_any_tree) .none kV5 dc5 pm5 an5 cd5 ct5), sl5⟩) (c5 : PySem.W.codeIn K cd5 "_law_any_tree" = true) (k5 : PySem.W.keepIn K (.ref f5) = true)
    {f6 : Addr} {oc6 kV6 dc6 pm6 cd6 ct6 : Value} {od6 an6 : Option Addr} {sl6 : Array (Option Value)} (a6 : PySem.W.nsIn K mainGlobals "_law_same" = some (some (.ref f6))) (l6 : K.lookup f6 = some ⟨oc6, od6, .func (PySem.W.fnOf "_law_same" "_law_same" (defArgs s__law_same) (defBody s__law_same) (defScope s__law_same) .none kV6 dc6 pm6 an6 cd6 ct6), sl6⟩) (c6 : PySem.W.codeIn K cd6 "_law_same" = true) (k6 : PySem.W.keepIn K (.ref f6) = true)
    {f7 : Addr} {oc7 kV7 dc7 pm7 cd7 ct7 : Value} {od7 an7 : Option Addr} {sl7 : Array (Option Value)} (a7 : PySem.W.nsIn K mainGlobals "_law_way" = some (some (.ref f7))) (l7 : K.lookup f7 = some ⟨oc7, od7, .func (PySem.W.fnOf "_law_way" "_law_way" (defArgs s__law_way) (defBody s__law_way) (defScope s__law_way) .none kV7 dc7 pm7 an7 cd7 ct7), sl7⟩) (c7 : PySem.W.codeIn K cd7 "_law_way" = true) (k7 : PySem.W.keepIn K (.ref f7) = true)
    {f8 : Addr} {oc8 kV8 dc8 pm8 cd8 ct8 : Value} {od8 an8 : Option Addr} {sl8 : Array (Option Value)} (a8 : PySem.W.nsIn K mainGlobals "tupled" = some (some (.ref f8))) (l8 : K.lookup f8 = some ⟨oc8, od8, .func (PySem.W.fnOf "tupled" "tupled" (defArgs s_tupled) (defBody s_tupled) (defScope s_tupled) .none kV8 dc8 pm8 an8 cd8 ct8), sl8⟩) (c8 : PySem.W.codeIn K cd8 "tupled" = true) (k8 : PySem.W.keepIn K (.ref f8) = true)
    {f9 : Addr} {oc9 kV9 dc9 pm9 cd9 ct9 : Value} {od9 an9 : Option Addr} {sl9 : Array (Option Value)} (a9 : PySem.W.nsIn K mainGlobals "is_number" = some (some (.ref f9))) (l9 : K.lookup f9 = some ⟨oc9, od9, .func (PySem.W.fnOf "is_number" "is_number" (defArgs s_is_number) (defBody s_is_number) (defScope s_is_number) .none kV9 dc9 pm9 an9 cd9 ct9), sl9⟩) (c9 : PySem.W.codeIn K cd9 "is_number" = true) (k9 : PySem.W.keepIn K (.ref f9) = true)
    {f10 : Addr} {oc10 kV10 dc10 pm10 cd10 ct10 : Value} {od10 an10 : Option Addr} {sl10 : Array (Option Value)} (a10 : PySem.W.nsIn K mainGlobals "is_from" = some (some (.ref f10))) (l10 : K.lookup f10 = some ⟨oc10, od10, .func (PySem.W.fnOf "is_from" "is_from" (defArgs s_is_from) (defBody s_is_from) (defScope s_is_from) .none kV10 dc10 pm10 an10 cd10 ct10), sl10⟩) (c10 : PySem.W.codeIn K cd10 "is_from" = true) (k10 : PySem.W.keepIn K (.ref f10) = true)
    {f11 : Addr} {oc11 kV11 dc11 pm11 cd11 ct11 : Value} {od11 an11 : Option Addr} {sl11 : Array (Option Value)} (a11 : PySem.W.nsIn K mainGlobals "is_long" = some (some (.ref f11))) (l11 : K.lookup f11 = some ⟨oc11, od11, .func (PySem.W.fnOf "is_long" "is_long" (defArgs s_is_long) (defBody s_is_long) (defScope s_is_long) .none kV11 dc11 pm11 an11 cd11 ct11), sl11⟩) (c11 : PySem.W.codeIn K cd11 "is_long" = true) (k11 : PySem.W.keepIn K (.ref f11) = true)
    {f12 : Addr} {oc12 kV12 dc12 pm12 cd12 ct12 : Value} {od12 an12 : Option Addr} {sl12 : Array (Option Value)} (a12 : PySem.W.nsIn K mainGlobals "are_numbers" = some (some (.ref f12))) (l12 : K.lookup f12 = some ⟨oc12, od12, .func (PySem.W.fnOf "are_numbers" "are_numbers" (defArgs s_are_numbers) (defBody s_are_numbers) (defScope s_are_numbers) .none kV12 dc12 pm12 an12 cd12 ct12), sl12⟩) (c12 : PySem.W.codeIn K cd12 "are_numbers" = true) (k12 : PySem.W.keepIn K (.ref f12) = true)
    {f13 : Addr} {oc13 kV13 dc13 pm13 cd13 ct13 : Value} {od13 an13 : Option Addr} {sl13 : Array (Option Value)} (a13 : PySem.W.nsIn K mainGlobals "is_pair" = some (some (.ref f13))) (l13 : K.lookup f13 = some ⟨oc13, od13, .func (PySem.W.fnOf "is_pair" "is_pair" (defArgs s_is_pair) (defBody s_is_pair) (defScope s_is_pair) .none kV13 dc13 pm13 an13 cd13 ct13), sl13⟩) (c13 : PySem.W.codeIn K cd13 "is_pair" = true) (k13 : PySem.W.keepIn K (.ref f13) = true)
    {f14 : Addr} {oc14 kV14 dc14 pm14 cd14 ct14 : Value} {od14 an14 : Option Addr} {sl14 : Array (Option Value)} (a14 : PySem.W.nsIn K mainGlobals "is_tie_of" = some (some (.ref f14))) (l14 : K.lookup f14 = some ⟨oc14, od14, .func (PySem.W.fnOf "is_tie_of" "is_tie_of" (defArgs s_is_tie_of) (defBody s_is_tie_of) (defScope s_is_tie_of) .none kV14 dc14 pm14 an14 cd14 ct14), sl14⟩) (c14 : PySem.W.codeIn K cd14 "is_tie_of" = true) (k14 : PySem.W.keepIn K (.ref f14) = true)
    {f15 : Addr} {oc15 kV15 dc15 pm15 cd15 ct15 : Value} {od15 an15 : Option Addr} {sl15 : Array (Option Value)} (a15 : PySem.W.nsIn K mainGlobals "marked" = some (some (.ref f15))) (l15 : K.lookup f15 = some ⟨oc15, od15, .func (PySem.W.fnOf "marked" "marked" (defArgs s_marked) (defBody s_marked) (defScope s_marked) .none kV15 dc15 pm15 an15 cd15 ct15), sl15⟩) (c15 : PySem.W.codeIn K cd15 "marked" = true) (k15 : PySem.W.keepIn K (.ref f15) = true)
    {f16 : Addr} {oc16 kV16 dc16 pm16 cd16 ct16 : Value} {od16 an16 : Option Addr} {sl16 : Array (Option Value)} (a16 : PySem.W.nsIn K mainGlobals "grown_from" = some (some (.ref f16))) (l16 : K.lookup f16 = some ⟨oc16, od16, .func (PySem.W.fnOf "grown_from" "grown_from" (defArgs s_grown_from) (defBody s_grown_from) (defScope s_grown_from) .none kV16 dc16 pm16 an16 cd16 ct16), sl16⟩) (c16 : PySem.W.codeIn K cd16 "grown_from" = true) (k16 : PySem.W.keepIn K (.ref f16) = true)
    {f17 : Addr} {oc17 kV17 dc17 pm17 cd17 ct17 : Value} {od17 an17 : Option Addr} {sl17 : Array (Option Value)} (a17 : PySem.W.nsIn K mainGlobals "hangs_in" = some (some (.ref f17))) (l17 : K.lookup f17 = some ⟨oc17, od17, .func (PySem.W.fnOf "hangs_in" "hangs_in" (defArgs s_hangs_in) (defBody s_hangs_in) (defScope s_hangs_in) .none kV17 dc17 pm17 an17 cd17 ct17), sl17⟩) (c17 : PySem.W.codeIn K cd17 "hangs_in" = true) (k17 : PySem.W.keepIn K (.ref f17) = true)
    {f18 : Addr} {oc18 kV18 dc18 pm18 cd18 ct18 : Value} {od18 an18 : Option Addr} {sl18 : Array (Option Value)} (a18 : PySem.W.nsIn K mainGlobals "ascends" = some (some (.ref f18))) (l18 : K.lookup f18 = some ⟨oc18, od18, .func (PySem.W.fnOf "ascends" "ascends" (defArgs s_ascends) (defBody s_ascends) (defScope s_ascends) .none kV18 dc18 pm18 an18 cd18 ct18), sl18⟩) (c18 : PySem.W.codeIn K cd18 "ascends" = true) (k18 : PySem.W.keepIn K (.ref f18) = true)
    {f19 : Addr} {oc19 kV19 dc19 pm19 cd19 ct19 : Value} {od19 an19 : Option Addr} {sl19 : Array (Option Value)} (a19 : PySem.W.nsIn K mainGlobals "is_web" = some (some (.ref f19))) (l19 : K.lookup f19 = some ⟨oc19, od19, .func (PySem.W.fnOf "is_web" "is_web" (defArgs s_is_web) (defBody s_is_web) (defScope s_is_web) .none kV19 dc19 pm19 an19 cd19 ct19), sl19⟩) (c19 : PySem.W.codeIn K cd19 "is_web" = true) (k19 : PySem.W.keepIn K (.ref f19) = true)
    {f20 : Addr} {oc20 kV20 dc20 pm20 cd20 ct20 : Value} {od20 an20 : Option Addr} {sl20 : Array (Option Value)} (a20 : PySem.W.nsIn K mainGlobals "sure_web" = some (some (.ref f20))) (l20 : K.lookup f20 = some ⟨oc20, od20, .func (PySem.W.fnOf "sure_web" "sure_web" (defArgs s_sure_web) (defBody s_sure_web) (defScope s_sure_web) .none kV20 dc20 pm20 an20 cd20 ct20), sl20⟩) (c20 : PySem.W.codeIn K cd20 "sure_web" = true) (k20 : PySem.W.keepIn K (.ref f20) = true)
    {f21 : Addr} {oc21 kV21 dc21 pm21 cd21 ct21 : Value} {od21 an21 : Option Addr} {sl21 : Array (Option Value)} (a21 : PySem.W.nsIn K mainGlobals "is_tree_in" = some (some (.ref f21))) (l21 : K.lookup f21 = some ⟨oc21, od21, .func (PySem.W.fnOf "is_tree_in" "is_tree_in" (defArgs s_is_tree_in) (defBody s_is_tree_in) (defScope s_is_tree_in) .none kV21 dc21 pm21 an21 cd21 ct21), sl21⟩) (c21 : PySem.W.codeIn K cd21 "is_tree_in" = true) (k21 : PySem.W.keepIn K (.ref f21) = true)
    {f22 : Addr} {oc22 kV22 dc22 pm22 cd22 ct22 : Value} {od22 an22 : Option Addr} {sl22 : Array (Option Value)} (a22 : PySem.W.nsIn K mainGlobals "sure_tree" = some (some (.ref f22))) (l22 : K.lookup f22 = some ⟨oc22, od22, .func (PySem.W.fnOf "sure_tree" "sure_tree" (defArgs s_sure_tree) (defBody s_sure_tree) (defScope s_sure_tree) .none kV22 dc22 pm22 an22 cd22 ct22), sl22⟩) (c22 : PySem.W.codeIn K cd22 "sure_tree" = true) (k22 : PySem.W.keepIn K (.ref f22) = true)
    {f23 : Addr} {oc23 kV23 dc23 pm23 cd23 ct23 : Value} {od23 an23 : Option Addr} {sl23 : Array (Option Value)} (a23 : PySem.W.nsIn K mainGlobals "sure_pair" = some (some (.ref f23))) (l23 : K.lookup f23 = some ⟨oc23, od23, .func (PySem.W.fnOf "sure_pair" "sure_pair" (defArgs s_sure_pair) (defBody s_sure_pair) (defScope s_sure_pair) .none kV23 dc23 pm23 an23 cd23 ct23), sl23⟩) (c23 : PySem.W.codeIn K cd23 "sure_pair" = true) (k23 : PySem.W.keepIn K (.ref f23) = true)
    {f24 : Addr} {oc24 kV24 dc24 pm24 cd24 ct24 : Value} {od24 an24 : Option Addr} {sl24 : Array (Option Value)} (a24 : PySem.W.nsIn K mainGlobals "steps_from" = some (some (.ref f24))) (l24 : K.lookup f24 = some ⟨oc24, od24, .func (PySem.W.fnOf "steps_from" "steps_from" (defArgs s_steps_from) (defBody s_steps_from) (defScope s_steps_from) .none kV24 dc24 pm24 an24 cd24 ct24), sl24⟩) (c24 : PySem.W.codeIn K cd24 "steps_from" = true) (k24 : PySem.W.keepIn K (.ref f24) = true)
    {f25 : Addr} {oc25 kV25 dc25 pm25 cd25 ct25 : Value} {od25 an25 : Option Addr} {sl25 : Array (Option Value)} (a25 : PySem.W.nsIn K mainGlobals "way_in" = some (some (.ref f25))) (l25 : K.lookup f25 = some ⟨oc25, od25, .func (PySem.W.fnOf "way_in" "way_in" (defArgs s_way_in) (defBody s_way_in) (defScope s_way_in) .none kV25 dc25 pm25 an25 cd25 ct25), sl25⟩) (c25 : PySem.W.codeIn K cd25 "way_in" = true) (k25 : PySem.W.keepIn K (.ref f25) = true)
    {f26 : Addr} {oc26 kV26 dc26 pm26 cd26 ct26 : Value} {od26 an26 : Option Addr} {sl26 : Array (Option Value)} (a26 : PySem.W.nsIn K mainGlobals "is_within" = some (some (.ref f26))) (l26 : K.lookup f26 = some ⟨oc26, od26, .func (PySem.W.fnOf "is_within" "is_within" (defArgs s_is_within) (defBody s_is_within) (defScope s_is_within) .none kV26 dc26 pm26 an26 cd26 ct26), sl26⟩) (c26 : PySem.W.codeIn K cd26 "is_within" = true) (k26 : PySem.W.keepIn K (.ref f26) = true)
    {f27 : Addr} {oc27 kV27 dc27 pm27 cd27 ct27 : Value} {od27 an27 : Option Addr} {sl27 : Array (Option Value)} (a27 : PySem.W.nsIn K mainGlobals "is_place_in" = some (some (.ref f27))) (l27 : K.lookup f27 = some ⟨oc27, od27, .func (PySem.W.fnOf "is_place_in" "is_place_in" (defArgs s_is_place_in) (defBody s_is_place_in) (defScope s_is_place_in) .none kV27 dc27 pm27 an27 cd27 ct27), sl27⟩) (c27 : PySem.W.codeIn K cd27 "is_place_in" = true) (k27 : PySem.W.keepIn K (.ref f27) = true)
    {f28 : Addr} {oc28 kV28 dc28 pm28 cd28 ct28 : Value} {od28 an28 : Option Addr} {sl28 : Array (Option Value)} (a28 : PySem.W.nsIn K mainGlobals "sure_place" = some (some (.ref f28))) (l28 : K.lookup f28 = some ⟨oc28, od28, .func (PySem.W.fnOf "sure_place" "sure_place" (defArgs s_sure_place) (defBody s_sure_place) (defScope s_sure_place) .none kV28 dc28 pm28 an28 cd28 ct28), sl28⟩) (c28 : PySem.W.codeIn K cd28 "sure_place" = true) (k28 : PySem.W.keepIn K (.ref f28) = true)
    {f29 : Addr} {oc29 kV29 dc29 pm29 cd29 ct29 : Value} {od29 an29 : Option Addr} {sl29 : Array (Option Value)} (a29 : PySem.W.nsIn K mainGlobals "way" = some (some (.ref f29))) (l29 : K.lookup f29 = some ⟨oc29, od29, .func (PySem.W.fnOf "way" "way" (defArgs s_way) (defBody s_way) (defScope s_way) .none kV29 dc29 pm29 an29 cd29 ct29), sl29⟩) (c29 : PySem.W.codeIn K cd29 "way" = true) (k29 : PySem.W.keepIn K (.ref f29) = true)
    {f30 : Addr} {oc30 kV30 dc30 pm30 cd30 ct30 : Value} {od30 an30 : Option Addr} {sl30 : Array (Option Value)} (a30 : PySem.W.nsIn K mainGlobals "_law_walked" = some (some (.ref f30))) (l30 : K.lookup f30 = some ⟨oc30, od30, .func (PySem.W.fnOf "_law_walked" "_law_walked" (defArgs s__law_walked) (defBody s__law_walked) (defScope s__law_walked) .none kV30 dc30 pm30 an30 cd30 ct30), sl30⟩) (c30 : PySem.W.codeIn K cd30 "_law_walked" = true) (k30 : PySem.W.keepIn K (.ref f30) = true)
    {f31 : Addr} {oc31 kV31 dc31 pm31 cd31 ct31 : Value} {od31 an31 : Option Addr} {sl31 : Array (Option Value)} (a31 : PySem.W.nsIn K mainGlobals "ties_by" = some (some (.ref f31))) (l31 : K.lookup f31 = some ⟨oc31, od31, .func (PySem.W.fnOf "ties_by" "ties_by" (defArgs s_ties_by) (defBody s_ties_by) (defScope s_ties_by) .none kV31 dc31 pm31 an31 cd31 ct31), sl31⟩) (c31 : PySem.W.codeIn K cd31 "ties_by" = true) (k31 : PySem.W.keepIn K (.ref f31) = true)
    {f32 : Addr} {oc32 kV32 dc32 pm32 cd32 ct32 : Value} {od32 an32 : Option Addr} {sl32 : Array (Option Value)} (a32 : PySem.W.nsIn K mainGlobals "ends_of" = some (some (.ref f32))) (l32 : K.lookup f32 = some ⟨oc32, od32, .func (PySem.W.fnOf "ends_of" "ends_of" (defArgs s_ends_of) (defBody s_ends_of) (defScope s_ends_of) .none kV32 dc32 pm32 an32 cd32 ct32), sl32⟩) (c32 : PySem.W.codeIn K cd32 "ends_of" = true) (k32 : PySem.W.keepIn K (.ref f32) = true)
    {f33 : Addr} {oc33 kV33 dc33 pm33 cd33 ct33 : Value} {od33 an33 : Option Addr} {sl33 : Array (Option Value)} (a33 : PySem.W.nsIn K mainGlobals "sure_side" = some (some (.ref f33))) (l33 : K.lookup f33 = some ⟨oc33, od33, .func (PySem.W.fnOf "sure_side" "sure_side" (defArgs s_sure_side) (defBody s_sure_side) (defScope s_sure_side) .none kV33 dc33 pm33 an33 cd33 ct33), sl33⟩) (c33 : PySem.W.codeIn K cd33 "sure_side" = true) (k33 : PySem.W.keepIn K (.ref f33) = true)
    {f34 : Addr} {oc34 kV34 dc34 pm34 cd34 ct34 : Value} {od34 an34 : Option Addr} {sl34 : Array (Option Value)} (a34 : PySem.W.nsIn K mainGlobals "sure_tie" = some (some (.ref f34))) (l34 : K.lookup f34 = some ⟨oc34, od34, .func (PySem.W.fnOf "sure_tie" "sure_tie" (defArgs s_sure_tie) (defBody s_sure_tie) (defScope s_sure_tie) .none kV34 dc34 pm34 an34 cd34 ct34), sl34⟩) (c34 : PySem.W.codeIn K cd34 "sure_tie" = true) (k34 : PySem.W.keepIn K (.ref f34) = true)
    {f35 : Addr} {oc35 kV35 dc35 pm35 cd35 ct35 : Value} {od35 an35 : Option Addr} {sl35 : Array (Option Value)} (a35 : PySem.W.nsIn K mainGlobals "part_in" = some (some (.ref f35))) (l35 : K.lookup f35 = some ⟨oc35, od35, .func (PySem.W.fnOf "part_in" "part_in" (defArgs s_part_in) (defBody s_part_in) (defScope s_part_in) .none kV35 dc35 pm35 an35 cd35 ct35), sl35⟩) (c35 : PySem.W.codeIn K cd35 "part_in" = true) (k35 : PySem.W.keepIn K (.ref f35) = true)
    {f36 : Addr} {oc36 kV36 dc36 pm36 cd36 ct36 : Value} {od36 an36 : Option Addr} {sl36 : Array (Option Value)} (a36 : PySem.W.nsIn K mainGlobals "part" = some (some (.ref f36))) (l36 : K.lookup f36 = some ⟨oc36, od36, .func (PySem.W.fnOf "part" "part" (defArgs s_part) (defBody s_part) (defScope s_part) .none kV36 dc36 pm36 an36 cd36 ct36), sl36⟩) (c36 : PySem.W.codeIn K cd36 "part" = true) (k36 : PySem.W.keepIn K (.ref f36) = true)
    {f37 : Addr} {oc37 kV37 dc37 pm37 cd37 ct37 : Value} {od37 an37 : Option Addr} {sl37 : Array (Option Value)} (a37 : PySem.W.nsIn K mainGlobals "closes" = some (some (.ref f37))) (l37 : K.lookup f37 = some ⟨oc37, od37, .func (PySem.W.fnOf "closes" "closes" (defArgs s_closes) (defBody s_closes) (defScope s_closes) .none kV37 dc37 pm37 an37 cd37 ct37), sl37⟩) (c37 : PySem.W.codeIn K cd37 "closes" = true) (k37 : PySem.W.keepIn K (.ref f37) = true)
    {f38 : Addr} {oc38 kV38 dc38 pm38 cd38 ct38 : Value} {od38 an38 : Option Addr} {sl38 : Array (Option Value)} (a38 : PySem.W.nsIn K mainGlobals "changed" = some (some (.ref f38))) (l38 : K.lookup f38 = some ⟨oc38, od38, .func (PySem.W.fnOf "changed" "changed" (defArgs s_changed) (defBody s_changed) (defScope s_changed) .none kV38 dc38 pm38 an38 cd38 ct38), sl38⟩) (c38 : PySem.W.codeIn K cd38 "changed" = true) (k38 : PySem.W.keepIn K (.ref f38) = true)
    {f39 : Addr} {oc39 kV39 dc39 pm39 cd39 ct39 : Value} {od39 an39 : Option Addr} {sl39 : Array (Option Value)} (a39 : PySem.W.nsIn K mainGlobals "_law_heard" = some (some (.ref f39))) (l39 : K.lookup f39 = some ⟨oc39, od39, .func (PySem.W.fnOf "_law_heard" "_law_heard" (defArgs s__law_heard) (defBody s__law_heard) (defScope s__law_heard) .none kV39 dc39 pm39 an39 cd39 ct39), sl39⟩) (c39 : PySem.W.codeIn K cd39 "_law_heard" = true) (k39 : PySem.W.keepIn K (.ref f39) = true)
    {f40 : Addr} {oc40 kV40 dc40 pm40 cd40 ct40 : Value} {od40 an40 : Option Addr} {sl40 : Array (Option Value)} (a40 : PySem.W.nsIn K mainGlobals "_law_marks" = some (some (.ref f40))) (l40 : K.lookup f40 = some ⟨oc40, od40, .func (PySem.W.fnOf "_law_marks" "_law_marks" (defArgs s__law_marks) (defBody s__law_marks) (defScope s__law_marks) .none kV40 dc40 pm40 an40 cd40 ct40), sl40⟩) (c40 : PySem.W.codeIn K cd40 "_law_marks" = true) (k40 : PySem.W.keepIn K (.ref f40) = true)
    {f41 : Addr} {oc41 kV41 dc41 pm41 cd41 ct41 : Value} {od41 an41 : Option Addr} {sl41 : Array (Option Value)} (a41 : PySem.W.nsIn K mainGlobals "_law_hangs" = some (some (.ref f41))) (l41 : K.lookup f41 = some ⟨oc41, od41, .func (PySem.W.fnOf "_law_hangs" "_law_hangs" (defArgs s__law_hangs) (defBody s__law_hangs) (defScope s__law_hangs) .none kV41 dc41 pm41 an41 cd41 ct41), sl41⟩) (c41 : PySem.W.codeIn K cd41 "_law_hangs" = true) (k41 : PySem.W.keepIn K (.ref f41) = true)
    {f42 : Addr} {oc42 kV42 dc42 pm42 cd42 ct42 : Value} {od42 an42 : Option Addr} {sl42 : Array (Option Value)} (a42 : PySem.W.nsIn K mainGlobals "is_tree" = some (some (.ref f42))) (l42 : K.lookup f42 = some ⟨oc42, od42, .func (PySem.W.fnOf "is_tree" "is_tree" (defArgs s_is_tree) (defBody s_is_tree) (defScope s_is_tree) .none kV42 dc42 pm42 an42 cd42 ct42), sl42⟩) (c42 : PySem.W.codeIn K cd42 "is_tree" = true) (k42 : PySem.W.keepIn K (.ref f42) = true)
    {f43 : Addr} {oc43 kV43 dc43 pm43 cd43 ct43 : Value} {od43 an43 : Option Addr} {sl43 : Array (Option Value)} (a43 : PySem.W.nsIn K mainGlobals "_law_right" = some (some (.ref f43))) (l43 : K.lookup f43 = some ⟨oc43, od43, .func (PySem.W.fnOf "_law_right" "_law_right" (defArgs s__law_right) (defBody s__law_right) (defScope s__law_right) .none kV43 dc43 pm43 an43 cd43 ct43), sl43⟩) (c43 : PySem.W.codeIn K cd43 "_law_right" = true) (k43 : PySem.W.keepIn K (.ref f43) = true)
    {f44 : Addr} {oc44 kV44 dc44 pm44 cd44 ct44 : Value} {od44 an44 : Option Addr} {sl44 : Array (Option Value)} (a44 : PySem.W.nsIn K mainGlobals "_law_box" = some (some (.ref f44))) (l44 : K.lookup f44 = some ⟨oc44, od44, .func (PySem.W.fnOf "_law_box" "_law_box" (defArgs s__law_box) (defBody s__law_box) (defScope s__law_box) .none kV44 dc44 pm44 an44 cd44 ct44), sl44⟩) (c44 : PySem.W.codeIn K cd44 "_law_box" = true) (k44 : PySem.W.keepIn K (.ref f44) = true)
    {f45 : Addr} {oc45 kV45 dc45 pm45 cd45 ct45 : Value} {od45 an45 : Option Addr} {sl45 : Array (Option Value)} (a45 : PySem.W.nsIn K mainGlobals "_law_cells" = some (some (.ref f45))) (l45 : K.lookup f45 = some ⟨oc45, od45, .func (PySem.W.fnOf "_law_cells" "_law_cells" (defArgs s__law_cells) (defBody s__law_cells) (defScope s__law_cells) .none kV45 dc45 pm45 an45 cd45 ct45), sl45⟩) (c45 : PySem.W.codeIn K cd45 "_law_cells" = true) (k45 : PySem.W.keepIn K (.ref f45) = true)
    {f46 : Addr} {oc46 kV46 dc46 pm46 cd46 ct46 : Value} {od46 an46 : Option Addr} {sl46 : Array (Option Value)} (a46 : PySem.W.nsIn K mainGlobals "_law_house_tree" = some (some (.ref f46))) (l46 : K.lookup f46 = some ⟨oc46, od46, .func (PySem.W.fnOf "_law_house_tree" "_law_house_tree" (defArgs s__law_house_tree) (defBody s__law_house_tree) (defScope s__law_house_tree) .none kV46 dc46 pm46 an46 cd46 ct46), sl46⟩) (c46 : PySem.W.codeIn K cd46 "_law_house_tree" = true) (k46 : PySem.W.keepIn K (.ref f46) = true)
    {f47 : Addr} {oc47 kV47 dc47 pm47 cd47 ct47 : Value} {od47 an47 : Option Addr} {sl47 : Array (Option Value)} (a47 : PySem.W.nsIn K mainGlobals "_law_house" = some (some (.ref f47))) (l47 : K.lookup f47 = some ⟨oc47, od47, .func (PySem.W.fnOf "_law_house" "_law_house" (defArgs s__law_house) (defBody s__law_house) (defScope s__law_house) .none kV47 dc47 pm47 an47 cd47 ct47), sl47⟩) (c47 : PySem.W.codeIn K cd47 "_law_house" = true) (k47 : PySem.W.keepIn K (.ref f47) = true)
    {f48 : Addr} {oc48 kV48 dc48 pm48 cd48 ct48 : Value} {od48 an48 : Option Addr} {sl48 : Array (Option Value)} (a48 : PySem.W.nsIn K mainGlobals "_law_ring" = some (some (.ref f48))) (l48 : K.lookup f48 = some ⟨oc48, od48, .func (PySem.W.fnOf "_law_ring" "_law_ring" (defArgs s__law_ring) (defBody s__law_ring) (defScope s__law_ring) .none kV48 dc48 pm48 an48 cd48 ct48), sl48⟩) (c48 : PySem.W.codeIn K cd48 "_law_ring" = true) (k48 : PySem.W.keepIn K (.ref f48) = true)
    {f49 : Addr} {oc49 kV49 dc49 pm49 cd49 ct49 : Value} {od49 an49 : Option Addr} {sl49 : Array (Option Value)} (a49 : PySem.W.nsIn K mainGlobals "_law_hand_right" = some (some (.ref f49))) (l49 : K.lookup f49 = some ⟨oc49, od49, .func (PySem.W.fnOf "_law_hand_right" "_law_hand_right" (defArgs s__law_hand_right) (defBody s__law_hand_right) (defScope s__law_hand_right) .none kV49 dc49 pm49 an49 cd49 ct49), sl49⟩) (c49 : PySem.W.codeIn K cd49 "_law_hand_right" = true) (k49 : PySem.W.keepIn K (.ref f49) = true)
    {f50 : Addr} {oc50 kV50 dc50 pm50 cd50 ct50 : Value} {od50 an50 : Option Addr} {sl50 : Array (Option Value)} (a50 : PySem.W.nsIn K mainGlobals "law" = some (some (.ref f50))) (l50 : K.lookup f50 = some ⟨oc50, od50, .func (PySem.W.fnOf "law" "law" (defArgs s_law) (defBody s_law) (defScope s_law) .none kV50 dc50 pm50 an50 cd50 ct50), sl50⟩) (c50 : PySem.W.codeIn K cd50 "law" = true) (k50 : PySem.W.keepIn K (.ref f50) = true)
    : ∃ fd : FuncData, (∀ (s : Shared) (u : Value), BindsTo s fd ⟨[u], []⟩ [("_law_script", u)]) ∧ ∀ base : Heap, K.In base → base.Ns mainGlobals mg → FnOk P w K mg base CX0 10 fa fd ["_law_script"] (sp_law K) := by
  have e := hfa.symm.trans (PySem.W.mg_of X GG a50)
  cases e
  have B0 : Bi mg := ⟨PySem.W.mg_none_of X GG z_isinstance, PySem.W.mg_none_of X GG z_int, PySem.W.mg_none_of X GG z_bool, PySem.W.mg_none_of X GG z_str, PySem.W.mg_none_of X GG z_list, PySem.W.mg_none_of X GG z_tuple, PySem.W.mg_none_of X GG z_set, PySem.W.mg_none_of X GG z_len, PySem.W.mg_none_of X GG z_all, PySem.W.mg_none_of X GG z_abs, PySem.W.mg_none_of X GG z_min, PySem.W.mg_none_of X GG z_max, PySem.W.mg_none_of X GG z_range, PySem.W.mg_none_of X GG z_zip, PySem.W.mg_none_of X GG z_enumerate, PySem.W.mg_none_of X GG z_sorted, PySem.W.mg_none_of X GG z_ValueError⟩
  have C0 : CanNot K mg C := cannot_mk X GG xa xx xk xb xt xs xg xn xd xc xp xi xm xq
  have d__law_take : Dfx K mg "_law_take" s__law_take ["_law_tin", "_law_below_so"] := dfx_mk X GG hb__law_take a0 l0 c0 k0
  have d__law_pick : Dfx K mg "_law_pick" s__law_pick ["_law_tin", "_law_goods_so", "_law_count_so"] := dfx_mk X GG hb__law_pick a1 l1 c1 k1
  have d__law_of : Dfx K mg "_law_of" s__law_of ["_law_tin", "_law_goods_so"] := dfx_mk X GG hb__law_of a2 l2 c2 k2
  have d__law_net : Dfx K mg "_law_net" s__law_net ["_law_tin", "_law_most_so"] := dfx_mk X GG hb__law_net a3 l3 c3 k3
  have d__law_lists : Dfx K mg "_law_lists" s__law_lists ["_law_matter"] := dfx_mk X GG hb__law_lists a4 l4 c4 k4
  have d__law_any_tree : Dfx K mg "_law_any_tree" s__law_any_tree ["_law_tin", "_law_net_here"] := dfx_mk X GG hb__law_any_tree a5 l5 c5 k5
  have d__law_same : Dfx K mg "_law_same" s__law_same ["_law_got", "_law_due"] := dfx_mk X GG hb__law_same a6 l6 c6 k6
  have d__law_way : Dfx K mg "_law_way" s__law_way ["_law_net_here", "_law_boughs", "_law_spot", "_law_goal_so"] := dfx_mk X GG hb__law_way a7 l7 c7 k7
  have d_tupled : Dfx K mg "tupled" s_tupled ["value"] := dfx_mk X GG hb_tupled a8 l8 c8 k8
  have d_is_number : Dfx K mg "is_number" s_is_number ["thing"] := dfx_mk X GG hb_is_number a9 l9 c9 k9
  have d_is_from : Dfx K mg "is_from" s_is_from ["thing", "least"] := dfx_mk X GG hb_is_from a10 l10 c10 k10
  have d_is_long : Dfx K mg "is_long" s_is_long ["thing", "length"] := dfx_mk X GG hb_is_long a11 l11 c11 k11
  have d_are_numbers : Dfx K mg "are_numbers" s_are_numbers ["thing"] := dfx_mk X GG hb_are_numbers a12 l12 c12 k12
  have d_is_pair : Dfx K mg "is_pair" s_is_pair ["thing"] := dfx_mk X GG hb_is_pair a13 l13 c13 k13
  have d_is_tie_of : Dfx K mg "is_tie_of" s_is_tie_of ["many", "number", "thing"] := dfx_mk X GG hb_is_tie_of a14 l14 c14 k14
  have d_marked : Dfx K mg "marked" s_marked ["marks", "many", "tie"] := dfx_mk X GG hb_marked a15 l15 c15 k15
  have d_grown_from : Dfx K mg "grown_from" s_grown_from ["marks", "many", "ties"] := dfx_mk X GG hb_grown_from a16 l16 c16 k16
  have d_hangs_in : Dfx K mg "hangs_in" s_hangs_in ["many", "number", "ties"] := dfx_mk X GG hb_hangs_in a17 l17 c17 k17
  have d_ascends : Dfx K mg "ascends" s_ascends ["row"] := dfx_mk X GG hb_ascends a18 l18 c18 k18
  have d_is_web : Dfx K mg "is_web" s_is_web ["thing"] := dfx_mk X GG hb_is_web a19 l19 c19 k19
  have d_sure_web : Dfx K mg "sure_web" s_sure_web ["web"] := dfx_mk X GG hb_sure_web a20 l20 c20 k20
  have d_is_tree_in : Dfx K mg "is_tree_in" s_is_tree_in ["web", "thing"] := dfx_mk X GG hb_is_tree_in a21 l21 c21 k21
  have d_sure_tree : Dfx K mg "sure_tree" s_sure_tree ["web", "tree"] := dfx_mk X GG hb_sure_tree a22 l22 c22 k22
  have d_sure_pair : Dfx K mg "sure_pair" s_sure_pair ["pair"] := dfx_mk X GG hb_sure_pair a23 l23 c23 k23
  have d_steps_from : Dfx K mg "steps_from" s_steps_from ["tree", "place"] := dfx_mk X GG hb_steps_from a24 l24 c24 k24
  have d_way_in : Dfx K mg "way_in" s_way_in ["tree", "place", "other"] := dfx_mk X GG hb_way_in a25 l25 c25 k25
  have d_is_within : Dfx K mg "is_within" s_is_within ["thing", "least", "most"] := dfx_mk X GG hb_is_within a26 l26 c26 k26
  have d_is_place_in : Dfx K mg "is_place_in" s_is_place_in ["web", "thing"] := dfx_mk X GG hb_is_place_in a27 l27 c27 k27
  have d_sure_place : Dfx K mg "sure_place" s_sure_place ["web", "place"] := dfx_mk X GG hb_sure_place a28 l28 c28 k28
  have d_way : Dfx K mg "way" s_way ["web", "tree", "place", "other"] := dfx_mk X GG hb_way a29 l29 c29 k29
  have d__law_walked : Dfx K mg "_law_walked" s__law_walked ["_law_boughs", "_law_spot"] := dfx_mk X GG hb__law_walked a30 l30 c30 k30
  have d_ties_by : Dfx K mg "ties_by" s_ties_by ["web", "place"] := dfx_mk X GG hb_ties_by a31 l31 c31 k31
  have d_ends_of : Dfx K mg "ends_of" s_ends_of ["web", "tree"] := dfx_mk X GG hb_ends_of a32 l32 c32 k32
  have d_sure_side : Dfx K mg "sure_side" s_sure_side ["side"] := dfx_mk X GG hb_sure_side a33 l33 c33 k33
  have d_sure_tie : Dfx K mg "sure_tie" s_sure_tie ["web", "tie"] := dfx_mk X GG hb_sure_tie a34 l34 c34 k34
  have d_part_in : Dfx K mg "part_in" s_part_in ["web", "tree", "tie", "side"] := dfx_mk X GG hb_part_in a35 l35 c35 k35
  have d_part : Dfx K mg "part" s_part ["web", "tree", "tie", "side"] := dfx_mk X GG hb_part a36 l36 c36 k36
  have d_closes : Dfx K mg "closes" s_closes ["web", "tree", "tie"] := dfx_mk X GG hb_closes a37 l37 c37 k37
  have d_changed : Dfx K mg "changed" s_changed ["web", "tree", "put", "out"] := dfx_mk X GG hb_changed a38 l38 c38 k38
  have d__law_heard : Dfx K mg "_law_heard" s__law_heard ["_law_door", "_law_net_here", "_law_boughs", "_law_one", "_law_two"] := dfx_mk X GG hb__law_heard a39 l39 c39 k39
  have d__law_marks : Dfx K mg "_law_marks" s__law_marks ["_law_many_so", "_law_pairs_so"] := dfx_mk X GG hb__law_marks a40 l40 c40 k40
  have d__law_hangs : Dfx K mg "_law_hangs" s__law_hangs ["_law_net_here", "_law_bonds_so"] := dfx_mk X GG hb__law_hangs a41 l41 c41 k41
  have d_is_tree : Dfx K mg "is_tree" s_is_tree ["web", "thing"] := dfx_mk X GG hb_is_tree a42 l42 c42 k42
  have d__law_right : Dfx K mg "_law_right" s__law_right ["_law_tin"] := dfx_mk X GG hb__law_right a43 l43 c43 k43
  have d__law_box : Dfx K mg "_law_box" s__law_box ["_law_script", "_law_k"] := dfx_mk X GG hb__law_box a44 l44 c44 k44
  have d__law_cells : Dfx K mg "_law_cells" s__law_cells ["_law_script", "_law_most_so"] := dfx_mk X GG hb__law_cells a45 l45 c45 k45
  have d__law_house_tree : Dfx K mg "_law_house_tree" s__law_house_tree [] := dfx_mk X GG hb__law_house_tree a46 l46 c46 k46
  have d__law_house : Dfx K mg "_law_house" s__law_house [] := dfx_mk X GG hb__law_house a47 l47 c47 k47
  have d__law_ring : Dfx K mg "_law_ring" s__law_ring ["_law_many_so"] := dfx_mk X GG hb__law_ring a48 l48 c48 k48
  have d__law_hand_right : Dfx K mg "_law_hand_right" s__law_hand_right [] := dfx_mk X GG hb__law_hand_right a49 l49 c49 k49
  have d_law : Dfx K mg "law" s_law ["_law_script"] := dfx_mk X GG hb_law a50 l50 c50 k50
  refine ⟨PySem.W.fnOf "law" "law" (defArgs s_law) (defBody s_law) (defScope s_law) .none kV50 dc50 pm50 an50 cd50 ct50, fun s v => .of_eq rfl, fun base _ _ => ?_⟩
  obtain ⟨f', fd', F', m', b', ok'⟩ := all_ok (P := P) (w := w) (base := base) B0 C0 d__law_take d__law_pick d__law_of d__law_net d__law_lists d__law_any_tree d__law_same d__law_way d_tupled d_is_number d_is_from d_is_long d_are_numbers d_is_pair d_is_tie_of d_marked d_grown_from d_hangs_in d_ascends d_is_web d_sure_web d_is_tree_in d_sure_tree d_sure_pair d_steps_from d_way_in d_is_within d_is_place_in d_sure_place d_way d__law_walked d_ties_by d_ends_of d_sure_side d_sure_tie d_part_in d_part d_closes d_changed d__law_heard d__law_marks d__law_hangs d_is_tree d__law_right d__law_box d__law_cells d__law_house_tree d__law_house d__law_ring d__law_hand_right d_law
  have e := hfa.symm.trans m'
  cases e
  obtain ⟨oc', od', kV', doc', pm', an', cdv', ct', osl', rfl, lk, hcd⟩ := F'.ex
  rw [l50] at lk
  cases lk
  exact ok'
theorem walk {l : PySem.W.OpenLaw} {q : Program} {loose : List Str} {XP : (Str → Option Value) → Heap → Prop} {YP : World → Heap → Prop} {d : DefRec} {K : Params → PySem.W.Frag} (hn : l.most = some 63) (hdf : d.params.defaults = [])
    (hY : ∀ (w : World) (h : Heap), YP w h → (K w.params).In h)
    (F : ∀ (w : World) (mg : Str → Option Value) (fa : Addr) (h : Heap), (K w.params).In h → h.Ns mainGlobals mg → mg d.name = some (.ref fa) →
      ∃ fd : FuncData, (∀ (s : Shared) (u : Value), BindsTo s fd ⟨[u], []⟩ [("_law_script", u)]) ∧ ∀ base : Heap, (K w.params).In base → base.Ns mainGlobals mg → FnOk l.prog w (K w.params) mg base CX0 10 fa fd ["_law_script"] (sp_law (K w.params))) :
    PySem.W.WalkO q loose XP YP l.row.toRowW d [] (fun f vs => PySem.call f vs) :=
  L2.walk_of (n := 63) (k := 10) (x := "_law_script") (CX := fun _ => CX0) (sp := fun w => sp_law (K w.params)) hn (by decide) hdf ⟨rfl, by decide, by decide⟩ hY F (fun _ _ a ns hl _ hS => ⟨a, ns, rfl, hS, hl, fun _ => rfl⟩) fun _ _ _ _ _ z => z
end G

set_option Elab.async false
set_option maxRecDepth 100000
open PySem PySem.W PyProof.Rows
set_option maxRecDepth 100000 in
set_option maxHeartbeats 0 in
theorem PySem.Challenge.cw_eachhandtied_k05_whole_ways_parts_change_holds : PySem.Challenge.rw_eachhandtied_k05_whole_ways_parts_change.Holds := by
  w_on; o_law; k_head; (case hw => w_witness2)
  k_fill
  refine G.walk (l := PySem.Challenge.rw_eachhandtied_k05_whole_ways_parts_change) rfl rfl (fun w h Y => PySem.W.kIn_of Y) ?F
  case F =>
    intro w mg fa h KX GG hmg
    refine' G.all_mk KX GG hmg ?z_isinstance ?z_int ?z_bool ?z_str ?z_list ?z_tuple ?z_set ?z_len ?z_all ?z_abs ?z_min ?z_max ?z_range ?z_zip ?z_enumerate ?z_sorted ?z_ValueError ?xa ?xx ?xk ?xb ?xt ?xs ?xg ?xn ?xd ?xc ?xp ?xi ?xm ?xq ?a0 ?l0 ?c0 ?k0 ?a1 ?l1 ?c1 ?k1 ?a2 ?l2 ?c2 ?k2 ?a3 ?l3 ?c3 ?k3 ?a4 ?l4 ?c4 ?k4 ?a5 ?l5 ?c5 ?k5 ?a6 ?l6 ?c6 ?k6 ?a7 ?l7 ?c7 ?k7 ?a8 ?l8 ?c8 ?k8 ?a9 ?l9 ?c9 ?k9 ?a10 ?l10 ?c10 ?k10 ?a11 ?l11 ?c11 ?k11 ?a12 ?l12 ?c12 ?k12 ?a13 ?l13 ?c13 ?k13 ?a14 ?l14 ?c14 ?k14 ?a15 ?l15 ?c15 ?k15 ?a16 ?l16 ?c16 ?k16 ?a17 ?l17 ?c17 ?k17 ?a18 ?l18 ?c18 ?k18 ?a19 ?l19 ?c19 ?k19 ?a20 ?l20 ?c20 ?k20 ?a21 ?l21 ?c21 ?k21 ?a22 ?l22 ?c22 ?k22 ?a23 ?l23 ?c23 ?k23 ?a24 ?l24 ?c24 ?k24 ?a25 ?l25 ?c25 ?k25 ?a26 ?l26 ?c26 ?k26 ?a27 ?l27 ?c27 ?k27 ?a28 ?l28 ?c28 ?k28 ?a29 ?l29 ?c29 ?k29 ?a30 ?l30 ?c30 ?k30 ?a31 ?l31 ?c31 ?k31 ?a32 ?l32 ?c32 ?k32 ?a33 ?l33 ?c33 ?k33 ?a34 ?l34 ?c34 ?k34 ?a35 ?l35 ?c35 ?k35 ?a36 ?l36 ?c36 ?k36 ?a37 ?l37 ?c37 ?k37 ?a38 ?l38 ?c38 ?k38 ?a39 ?l39 ?c39 ?k39 ?a40 ?l40 ?c40 ?k40 ?a41 ?l41 ?c41 ?k41 ?a42 ?l42 ?c42 ?k42 ?a43 ?l43 ?c43 ?k43 ?a44 ?l44 ?c44 ?k44 ?a45 ?l45 ?c45 ?k45 ?a46 ?l46 ?c46 ?k46 ?a47 ?l47 ?c47 ?k47 ?a48 ?l48 ?c48 ?k48 ?a49 ?l49 ?c49 ?k49 ?a50 ?l50 ?c50 ?k50
    (case z_isinstance => k_is)
    (case z_int => k_is)
    (case z_bool => k_is)
    (case z_str => k_is)
    (case z_list => k_is)
    (case z_tuple => k_is)
    (case z_set => k_is)
    (case z_len => k_is)
    (case z_all => k_is)
    (case z_abs => k_is)
    (case z_min => k_is)
    (case z_max => k_is)
    (case z_range => k_is)
    (case z_zip => k_is)
    (case z_enumerate => k_is)
    (case z_sorted => k_is)
    (case z_ValueError => k_is)
    (case xa => k_is)
    (case xx => k_exc)
    (case xk => k_is)
    (case xb => k_is)
    (case xt => k_is)
    (case xs => first | rfl | k_is)
    (case xg => k_is)
    (case xn => k_is)
    (case xd => k_is)
    (case xc => k_is)
    (case xp => k_is)
    (case xi => k_is)
    (case xm => k_is)
    (case xq => k_is)
    (case a0 => k_is)
    (case l0 => k_is)
    (case c0 => k_is)
    (case k0 => k_is)
    (case a1 => k_is)
    (case l1 => k_is)
    (case c1 => k_is)
    (case k1 => k_is)
    (case a2 => k_is)
    (case l2 => k_is)
    (case c2 => k_is)
    (case k2 => k_is)
    (case a3 => k_is)
    (case l3 => k_is)
    (case c3 => k_is)
    (case k3 => k_is)
    (case a4 => k_is)
    (case l4 => k_is)
    (case c4 => k_is)
    (case k4 => k_is)
    (case a5 => k_is)
    (case l5 => k_is)
    (case c5 => k_is)
    (case k5 => k_is)
    (case a6 => k_is)
    (case l6 => k_is)
    (case c6 => k_is)
    (case k6 => k_is)
    (case a7 => k_is)
    (case l7 => k_is)
    (case c7 => k_is)
    (case k7 => k_is)
    (case a8 => k_is)
    (case l8 => k_is)
    (case c8 => k_is)
    (case k8 => k_is)
    (case a9 => k_is)
    (case l9 => k_is)
    (case c9 => k_is)
    (case k9 => k_is)
    (case a10 => k_is)
    (case l10 => k_is)
    (case c10 => k_is)
    (case k10 => k_is)
    (case a11 => k_is)
    (case l11 => k_is)
    (case c11 => k_is)
    (case k11 => k_is)
    (case a12 => k_is)
    (case l12 => k_is)
    (case c12 => k_is)
    (case k12 => k_is)
    (case a13 => k_is)
    (case l13 => k_is)
    (case c13 => k_is)
    (case k13 => k_is)
    (case a14 => k_is)
    (case l14 => k_is)
    (case c14 => k_is)
    (case k14 => k_is)
    (case a15 => k_is)
    (case l15 => k_is)
    (case c15 => k_is)
    (case k15 => k_is)
    (case a16 => k_is)
    (case l16 => k_is)
    (case c16 => k_is)
    (case k16 => k_is)
    (case a17 => k_is)
    (case l17 => k_is)
    (case c17 => k_is)
    (case k17 => k_is)
    (case a18 => k_is)
    (case l18 => k_is)
    (case c18 => k_is)
    (case k18 => k_is)
    (case a19 => k_is)
    (case l19 => k_is)
    (case c19 => k_is)
    (case k19 => k_is)
    (case a20 => k_is)
    (case l20 => k_is)
    (case c20 => k_is)
    (case k20 => k_is)
    (case a21 => k_is)
    (case l21 => k_is)
    (case c21 => k_is)
    (case k21 => k_is)
    (case a22 => k_is)
    (case l22 => k_is)
    (case c22 => k_is)
    (case k22 => k_is)
    (case a23 => k_is)
    (case l23 => k_is)
    (case c23 => k_is)
    (case k23 => k_is)
    (case a24 => k_is)
    (case l24 => k_is)
    (case c24 => k_is)
    (case k24 => k_is)
    (case a25 => k_is)
    (case l25 => k_is)
    (case c25 => k_is)
    (case k25 => k_is)
    (case a26 => k_is)
    (case l26 => k_is)
    (case c26 => k_is)
    (case k26 => k_is)
    (case a27 => k_is)
    (case l27 => k_is)
    (case c27 => k_is)
    (case k27 => k_is)
    (case a28 => k_is)
    (case l28 => k_is)
    (case c28 => k_is)
    (case k28 => k_is)
    (case a29 => k_is)
    (case l29 => k_is)
    (case c29 => k_is)
    (case k29 => k_is)
    (case a30 => k_is)
    (case l30 => k_is)
    (case c30 => k_is)
    (case k30 => k_is)
    (case a31 => k_is)
    (case l31 => k_is)
    (case c31 => k_is)
    (case k31 => k_is)
    (case a32 => k_is)
    (case l32 => k_is)
    (case c32 => k_is)
    (case k32 => k_is)
    (case a33 => k_is)
    (case l33 => k_is)
    (case c33 => k_is)
    (case k33 => k_is)
    (case a34 => k_is)
    (case l34 => k_is)
    (case c34 => k_is)
    (case k34 => k_is)
    (case a35 => k_is)
    (case l35 => k_is)
    (case c35 => k_is)
    (case k35 => k_is)
    (case a36 => k_is)
    (case l36 => k_is)
    (case c36 => k_is)
    (case k36 => k_is)
    (case a37 => k_is)
    (case l37 => k_is)
    (case c37 => k_is)
    (case k37 => k_is)
    (case a38 => k_is)
    (case l38 => k_is)
    (case c38 => k_is)
    (case k38 => k_is)
    (case a39 => k_is)
    (case l39 => k_is)
    (case c39 => k_is)
    (case k39 => k_is)
    (case a40 => k_is)
    (case l40 => k_is)
    (case c40 => k_is)
    (case k40 => k_is)
    (case a41 => k_is)
    (case l41 => k_is)
    (case c41 => k_is)
    (case k41 => k_is)
    (case a42 => k_is)
    (case l42 => k_is)
    (case c42 => k_is)
    (case k42 => k_is)
    (case a43 => k_is)
    (case l43 => k_is)
    (case c43 => k_is)
    (case k43 => k_is)
    (case a44 => k_is)
    (case l44 => k_is)
    (case c44 => k_is)
    (case k44 => k_is)
    (case a45 => k_is)
    (case l45 => k_is)
    (case c45 => k_is)
    (case k45 => k_is)
    (case a46 => k_is)
    (case l46 => k_is)
    (case c46 => k_is)
    (case k46 => k_is)
    (case a47 => k_is)
    (case l47 => k_is)
    (case c47 => k_is)
    (case k47 => k_is)
    (case a48 => k_is)
    (case l48 => k_is)
    (case c48 => k_is)
    (case k48 => k_is)
    (case a49 => k_is)
    (case l49 => k_is)
    (case c49 => k_is)
    (case k49 => k_is)
    (case a50 => k_is)
    (case l50 => k_is)
    (case c50 => k_is)
    (case k50 => k_is)
#print axioms PySem.Challenge.cw_eachhandtied_k05_whole_ways_parts_change_holds

