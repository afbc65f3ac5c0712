import PyProof.Rows.All
import HandS.Property
import HandS.ClsMeth
import HandS.MakeKw
import HandS.TupAny
import HandS.ForMost
import HandS.ForExc
import HandS.Deep
import HandS.Wide
import HandS.IsInst
import HandS.Star
import HandS.RaiseMore
import HandS.Zip
import HandS.Evl
import HandS.Defaults
import HandS.MakeKwOnly
import HandS.TupSets
import HandS.TupMul
import HandS.SetFor
import HandS.Codes
import HandS.More
import PyProof.InstEq
import KE.KFmtOwn
import PySem.Challenge.RW_fooledtest_k09_machines_changed
set_option Elab.async false
set_option linter.all false
set_option maxRecDepth 100000
set_option maxHeartbeats 4000000

section
/-! the data layer: readings of the hand layer told over data, with one bag of draws -/
namespace DL
open PySem L2

/-- what a value is, without the heap -/
inductive D where
  | non | bl (b : Bool) | int (i : Int) | str (s : Str) | lst (l : List D) | tup (l : List D)
  | ins (C : Addr) (l : List (Str × D)) | dct (l : List (Key × D)) | raw (v : V)

mutual
inductive DV (K : PySem.W.Frag) (G : Hp) : V → D → Prop
  | non : DV K G .non .non
  | bl (b : Bool) : DV K G (.bl b) (.bl b)
  | int (i : Int) : DV K G (.int i) (.int i)
  | str (s : Str) : DV K G (.str s) (.str s)
  | lst {a : Addr} {xs : List V} {ds : List D} : G a = some (.lst xs) → DVs K G xs ds → DV K G (.ref a) (.lst ds)
  | tup {a : Addr} {xs : List V} {ds : List D} : SqT K G a xs → DVs K G xs ds → DV K G (.ref a) (.tup ds)
  | ins {a C dx : Addr} {fs : List (Str × V)} {gs : List (Str × D)} : G a = some (.ins C dx fs) → DVf K G fs gs → DV K G (.ref a) (.ins C gs)
  | dct {a : Addr} {fs : List (Key × V)} {gs : List (Key × D)} : G a = some (.dK fs) → DVk K G fs gs → DV K G (.ref a) (.dct gs)
  | raw (v : V) : DV K G v (.raw v)
inductive DVs (K : PySem.W.Frag) (G : Hp) : List V → List D → Prop
  | nil : DVs K G [] []
  | cons {v : V} {vs : List V} {d : D} {ds : List D} : DV K G v d → DVs K G vs ds → DVs K G (v :: vs) (d :: ds)
inductive DVf (K : PySem.W.Frag) (G : Hp) : List (Str × V) → List (Str × D) → Prop
  | nil : DVf K G [] []
  | cons {f : Str} {v : V} {vs : List (Str × V)} {d : D} {ds : List (Str × D)} : DV K G v d → DVf K G vs ds → DVf K G ((f, v) :: vs) ((f, d) :: ds)
inductive DVk (K : PySem.W.Frag) (G : Hp) : List (Key × V) → List (Key × D) → Prop
  | nil : DVk K G [] []
  | cons {f : Key} {v : V} {vs : List (Key × V)} {d : D} {ds : List (Key × D)} : DV K G v d → DVk K G vs ds → DVk K G ((f, v) :: vs) ((f, d) :: ds)
end

/-- all that G knows G' knows -/
def Sub (G G' : Hp) : Prop := ∀ a o, G a = some o → G' a = some o
theorem Sub.refl (G : Hp) : Sub G G := fun _ _ h => h
theorem Sub.trans {G G1 G2 : Hp} (a : Sub G G1) (b : Sub G1 G2) : Sub G G2 := fun x o h => b x o (a x o h)
theorem Sub.rd {G G' : Hp} (s : Sub G G') {a : Addr} {u : HO} (h : Rd G a u) : Rd G' a u := by
  rcases h with h | ⟨o, h⟩
  · exact .inl (s _ _ h)
  · exact .inr ⟨o, s _ _ h⟩
theorem sqL {K : PySem.W.Frag} {H : Hp} {a : Addr} {xs : List V} (h : H a = some (.lst xs)) : SqL K H a xs := .inl (.inl h)
theorem sqT {K : PySem.W.Frag} {H : Hp} {a : Addr} {xs : List V} (h : H a = some (.tup xs)) : SqT K H a xs := .inl (.inl h)
theorem Sub.l {K : PySem.W.Frag} {G G' : Hp} (s : Sub G G') {a : Addr} {xs : List V} (h : SqL K G a xs) : SqL K G' a xs := by
  rcases h with h | h
  · exact .inl (s.rd h)
  · exact .inr h
theorem Sub.t {K : PySem.W.Frag} {G G' : Hp} (s : Sub G G') {a : Addr} {xs : List V} (h : SqT K G a xs) : SqT K G' a xs := by
  rcases h with h | h
  · exact .inl (s.rd h)
  · exact .inr h
mutual
theorem DV.mono {K : PySem.W.Frag} {G G' : Hp} (s : Sub G G') : ∀ {v : V} {d : D}, DV K G v d → DV K G' v d
  | _, _, .non => .non
  | _, _, .bl b => .bl b
  | _, _, .int i => .int i
  | _, _, .str i => .str i
  | _, _, .lst h r => .lst (s _ _ h) (DVs.mono s r)
  | _, _, .tup h r => .tup (s.t h) (DVs.mono s r)
  | _, _, .ins h r => .ins (s _ _ h) (DVf.mono s r)
  | _, _, .dct h r => .dct (s _ _ h) (DVk.mono s r)
  | _, _, .raw v => .raw v
theorem DVs.mono {K : PySem.W.Frag} {G G' : Hp} (s : Sub G G') : ∀ {v : List V} {d : List D}, DVs K G v d → DVs K G' v d
  | _, _, .nil => .nil
  | _, _, .cons h r => .cons (DV.mono s h) (DVs.mono s r)
theorem DVf.mono {K : PySem.W.Frag} {G G' : Hp} (s : Sub G G') : ∀ {v : List (Str × V)} {d : List (Str × D)}, DVf K G v d → DVf K G' v d
  | _, _, .nil => .nil
  | _, _, .cons h r => .cons (DV.mono s h) (DVf.mono s r)
theorem DVk.mono {K : PySem.W.Frag} {G G' : Hp} (s : Sub G G') : ∀ {v : List (Key × V)} {d : List (Key × D)}, DVk K G v d → DVk K G' v d
  | _, _, .nil => .nil
  | _, _, .cons h r => .cons (DV.mono s h) (DVk.mono s r)
end
section
variable {K : PySem.W.Frag} {G : Hp} {v : V}
theorem DV.to_int {i : Int} (h : DV K G v (.int i)) : v = .int i := by cases h; rfl
theorem DV.to_bl {b : Bool} (h : DV K G v (.bl b)) : v = .bl b := by cases h; rfl
theorem DV.to_str {s : Str} (h : DV K G v (.str s)) : v = .str s := by cases h; rfl
theorem DV.to_non (h : DV K G v .non) : v = .non := by cases h; rfl
theorem DV.to_raw {x : V} (h : DV K G v (.raw x)) : v = x := by cases h; rfl
theorem DV.to_lst {ds : List D} (h : DV K G v (.lst ds)) : ∃ a xs, v = .ref a ∧ G a = some (.lst xs) ∧ DVs K G xs ds := by
  cases h with | lst h r => exact ⟨_, _, rfl, h, r⟩
theorem DV.to_tup {ds : List D} (h : DV K G v (.tup ds)) : ∃ a xs, v = .ref a ∧ SqT K G a xs ∧ DVs K G xs ds := by
  cases h with | tup h r => exact ⟨_, _, rfl, h, r⟩
theorem DV.to_ins {C : Addr} {gs : List (Str × D)} (h : DV K G v (.ins C gs)) : ∃ a dx fs, v = .ref a ∧ G a = some (.ins C dx fs) ∧ DVf K G fs gs := by
  cases h with | ins h r => exact ⟨_, _, _, rfl, h, r⟩
theorem DV.to_dct {gs : List (Key × D)} (h : DV K G v (.dct gs)) : ∃ a fs, v = .ref a ∧ G a = some (.dK fs) ∧ DVk K G fs gs := by
  cases h with | dct h r => exact ⟨_, _, rfl, h, r⟩
theorem DVs.length : ∀ {vs : List V} {ds : List D}, DVs K G vs ds → vs.length = ds.length
  | _, _, .nil => rfl
  | _, _, .cons _ r => congrArg (· + 1) (DVs.length r)
theorem DVs.get : ∀ {vs : List V} {ds : List D} {i : Nat} {d : D}, DVs K G vs ds → ds[i]? = some d → ∃ v, vs[i]? = some v ∧ DV K G v d
  | _, _, _, _, .nil, e => by simp at e
  | _, _, 0, _, .cons h _, e => by
    simp at e
    subst e
    exact ⟨_, rfl, h⟩
  | _, _, i + 1, _, .cons _ r, e => by
    obtain ⟨v, h1, h2⟩ := DVs.get (i := i) r (by simpa using e)
    exact ⟨v, by simpa using h1, h2⟩
theorem DVs.append : ∀ {vs ws : List V} {ds es : List D}, DVs K G vs ds → DVs K G ws es → DVs K G (vs ++ ws) (ds ++ es)
  | _, _, _, _, .nil, s => s
  | _, _, _, _, .cons h r, s => .cons h (DVs.append r s)
theorem DVs.get' : ∀ {vs : List V} {ds : List D} {i : Nat} {v : V}, DVs K G vs ds → vs[i]? = some v → ∃ d, ds[i]? = some d ∧ DV K G v d
  | _, _, _, _, .nil, e => by simp at e
  | _, _, 0, _, .cons h _, e => by
    simp at e
    subst e
    exact ⟨_, rfl, h⟩
  | _, _, i + 1, _, .cons _ r, e => by
    obtain ⟨v, h1, h2⟩ := DVs.get' (i := i) r (by simpa using e)
    exact ⟨v, by simpa using h1, h2⟩
theorem DVs.set {v : V} {d : D} (h : DV K G v d) : ∀ {vs : List V} {ds : List D} (i : Nat), DVs K G vs ds → DVs K G (vs.set i v) (ds.set i d)
  | _, _, _, .nil => .nil
  | _, _, 0, .cons _ r => .cons h r
  | _, _, i + 1, .cons q r => .cons q (DVs.set h i r)
theorem DVs.take : ∀ {vs : List V} {ds : List D} (n : Nat), DVs K G vs ds → DVs K G (vs.take n) (ds.take n)
  | _, _, 0, _ => .nil
  | _, _, _ + 1, .nil => .nil
  | _, _, n + 1, .cons h r => .cons h (DVs.take n r)
theorem DVs.drop : ∀ {vs : List V} {ds : List D} (n : Nat), DVs K G vs ds → DVs K G (vs.drop n) (ds.drop n)
  | _, _, 0, r => r
  | _, _, _ + 1, .nil => .nil
  | _, _, n + 1, .cons _ r => DVs.drop n r
theorem DVs.rep {v : V} {d : D} (h : DV K G v d) : ∀ n, DVs K G (List.replicate n v) (List.replicate n d)
  | 0 => .nil
  | n + 1 => .cons h (DVs.rep h n)
theorem DVs.ints : ∀ {vs : List V} {ns : List Int}, DVs K G vs (ns.map D.int) → vs = ns.map V.int
  | _, [], .nil => rfl
  | _, n :: ns, .cons h r => by
    cases h
    rw [DVs.ints r]
    rfl
theorem DVs.of_ints : ∀ ns : List Int, DVs K G (ns.map V.int) (ns.map D.int)
  | [] => .nil
  | n :: ns => .cons (.int n) (DVs.of_ints ns)
theorem DVs.bls : ∀ {vs : List V} {ns : List Bool}, DVs K G vs (ns.map D.bl) → vs = ns.map V.bl
  | _, [], .nil => rfl
  | _, n :: ns, .cons h r => by
    cases h
    rw [DVs.bls r]
    rfl
theorem DVs.of_bls : ∀ ns : List Bool, DVs K G (ns.map V.bl) (ns.map D.bl)
  | [] => .nil
  | n :: ns => .cons (.bl n) (DVs.of_bls ns)
theorem DVs.strs : ∀ {vs : List V} {ns : List Str}, DVs K G vs (ns.map D.str) → vs = ns.map V.str
  | _, [], .nil => rfl
  | _, n :: ns, .cons h r => by
    cases h
    rw [DVs.strs r]
    rfl
theorem DVs.of_strs : ∀ ns : List Str, DVs K G (ns.map V.str) (ns.map D.str)
  | [] => .nil
  | n :: ns => .cons (.str n) (DVs.of_strs ns)
theorem DVf.lookup {f : Str} {d : D} : ∀ {vs : List (Str × V)} {ds : List (Str × D)}, DVf K G vs ds → ds.lookup f = some d → ∃ v, vs.lookup f = some v ∧ DV K G v d
  | _, _, .nil, e => by simp at e
  | _, _, .cons (f := g) h r, e => by
    rw [List.lookup_cons] at e ⊢
    cases hb : (f == g) with
    | true =>
      rw [hb] at e
      simp at e
      subst e
      exact ⟨_, by simp, h⟩
    | false =>
      rw [hb] at e
      obtain ⟨v, h1, h2⟩ := DVf.lookup r (by simpa using e)
      exact ⟨v, by simpa using h1, h2⟩
theorem DVf.lookup_none {f : Str} : ∀ {vs : List (Str × V)} {ds : List (Str × D)}, DVf K G vs ds → ds.lookup f = none → vs.lookup f = none
  | _, _, .nil, e => rfl
  | _, _, .cons (f := g) h r, e => by
    rw [List.lookup_cons] at e ⊢
    cases hb : (f == g) with
    | true =>
      rw [hb] at e
      simp at e
    | false =>
      rw [hb] at e
      simpa using DVf.lookup_none r (by simpa using e)
end

/-! ### the bag of draws -/
def Bag (c a : Addr) (H : Hp) : Prop := ∃ (cells : List Int) (i r s n : Int), a ≠ c ∧ H a = some (.lst [.ref c, .int i, .int r, .int s, .int n]) ∧ H c = some (.lst (cells.map V.int)) ∧
  0 ≤ i ∧ 0 ≤ r ∧ 0 ≤ s ∧ s < 2147483629 ∧ 0 ≤ n
def BagO (c : Addr) (b : Option Addr) (H : Hp) : Prop := ∀ a, b = some a → Bag c a H
theorem Bag.mono {c a : Addr} {H H' : Hp} (s : Sub H H') : Bag c a H → Bag c a H' := fun ⟨cells, i, r, q, n, h0, h1, h2, h⟩ => ⟨cells, i, r, q, n, h0, s _ _ h1, s _ _ h2, h⟩
theorem BagO.mono {c : Addr} {b : Option Addr} {H H' : Hp} (s : Sub H H') (h : BagO c b H) : BagO c b H' := fun a e => (h a e).mono s

/-- all but the bag stays -/
def Ext (b : Option Addr) (H H' : Hp) : Prop := ∀ a o, b ≠ some a → H a = some o → H' a = some o
theorem Ext.refl (b : Option Addr) (H : Hp) : Ext b H H := fun _ _ _ h => h
theorem Ext.trans {b : Option Addr} {H H1 H2 : Hp} (x : Ext b H H1) (y : Ext b H1 H2) : Ext b H H2 := fun a o n h => y a o n (x a o n h)
theorem Ext.of_sub {b : Option Addr} {H H1 : Hp} (x : Sub H H1) : Ext b H H1 := fun a o _ h => x a o h
theorem Sub.upd {H : Hp} {p : Addr} {o : HO} (h : H p = none) : Sub H (upd H p o) := fun a u e => by
  rw [upd_ne (ne_of_none e h)]
  exact e

/-- where a body stands: the bag, the outer objects that it must not see, the heap at its entry, the wish of an exception -/
structure Fr where
  b : Option Addr
  c : Addr
  M : Addr → Prop
  H0 : Hp
  E : XK
  X : Value → List (Str × D) → Prop

open Classical in
noncomputable def gh (F : Fr) (L : List Addr) (H : Hp) : Hp := fun a => if F.M a ∨ a ∈ L then none else H a
theorem gh_some {F : Fr} {L : List Addr} {H : Hp} {a : Addr} {o : HO} : gh F L H a = some o ↔ ¬ F.M a ∧ a ∉ L ∧ H a = some o := by
  unfold gh
  split
  · rename_i h
    constructor
    · intro e
      cases e
    · rintro ⟨h1, h2, _⟩
      rcases h with h | h
      · exact absurd h h1
      · exact absurd h h2
  · rename_i h
    constructor
    · intro e
      exact ⟨fun z => h (.inl z), fun z => h (.inr z), e⟩
    · exact fun e => e.2.2
theorem gh_sub {F : Fr} {L : List Addr} {H : Hp} : Sub (gh F L H) H := fun _ _ h => (gh_some.mp h).2.2
theorem gh_drop {F : Fr} {L L' : List Addr} {H : Hp} (h : ∀ a ∈ L', a ∈ L) : Sub (gh F L H) (gh F L' H) := fun a o e => by
  obtain ⟨h1, h2, h3⟩ := gh_some.mp e
  exact gh_some.mpr ⟨h1, fun z => h2 (h a z), h3⟩

def XdV (K : PySem.W.Frag) (G H : Hp) : Option Addr → List (Str × D) → Prop
  | none, fs => fs = []
  | some a, fs => ∃ vs, H a = some (.xd vs) ∧ DVf K G vs fs

structure OkH (K : PySem.W.Frag) (F : Fr) (L : List Addr) (H : Hp) : Prop where
  ext : Ext F.b F.H0 H
  bag : BagO F.c F.b H
  mdom : ∀ a, F.M a → F.H0 a ≠ none
  mb : ∀ a, F.b = some a → F.M a
  mc : ∀ a, F.b = some a → F.M F.c
  lf : ∀ a ∈ L, F.H0 a = none
  ld : ∀ a ∈ L, H a ≠ none
  hX : ∀ cls d fs H', F.X cls fs → Ext F.b F.H0 H' → BagO F.c F.b H' → XdV K (gh F [] H') H' d fs → F.E cls d H'
section
variable {K : PySem.W.Frag} {F : Fr} {L : List Addr} {H H' : Hp}
theorem OkH.lb (k : OkH K F L H) {a : Addr} (h : a ∈ L) : F.b ≠ some a := fun z => absurd (k.lf a h) (k.mdom a (k.mb a z))
theorem OkH.lm (k : OkH K F L H) {a : Addr} (h : a ∈ L) : ¬ F.M a := fun z => absurd (k.lf a h) (k.mdom a z)
theorem OkH.next (k : OkH K F L H) (e : Ext F.b H H') (b : BagO F.c F.b H') : OkH K F L H' :=
  ⟨k.ext.trans e, b, k.mdom, k.mb, k.mc, k.lf, fun a h => by
    cases q : H a with
    | none => exact absurd q (k.ld a h)
    | some o => rw [e a o (k.lb h) q]; simp, k.hX⟩
theorem OkH.bdom (k : OkH K F L H) {a : Addr} (h : F.b = some a) : H a ≠ none := by
  obtain ⟨_, _, _, _, _, _, e, _⟩ := k.bag a h
  rw [e]
  simp
theorem OkH.notM (k : OkH K F L H) {p : Addr} (h : H p = none) : ¬ F.M p := fun z => by
  by_cases e : F.b = some p
  · exact k.bdom e h
  · cases q : F.H0 p with
    | none => exact k.mdom p z q
    | some o =>
      rw [k.ext p o e q] at h
      cases h
theorem OkH.free0 (k : OkH K F L H) {p : Addr} (h : H p = none) : F.H0 p = none := by
  cases q : F.H0 p with
  | none => rfl
  | some o =>
    by_cases e : F.b = some p
    · exact absurd h (k.bdom e)
    · rw [k.ext p o e q] at h
      cases h
theorem OkH.notL (k : OkH K F L H) {p : Addr} (h : H p = none) : p ∉ L := fun z => k.ld p z h
theorem OkH.new (k : OkH K F L H) {p : Addr} {o : HO} (h : H p = none) : OkH K F L (upd H p o) := k.next (.of_sub (.upd h)) (k.bag.mono (.upd h))
theorem OkH.newL (k : OkH K F L H) {p : Addr} {o : HO} (h : H p = none) : OkH K F (p :: L) (upd H p o) := by
  refine ⟨(k.new h).ext, (k.new h).bag, k.mdom, k.mb, k.mc, fun a ha => ?_, fun a ha => ?_, k.hX⟩
  · rcases List.mem_cons.mp ha with rfl | ha
    · exact k.free0 h
    · exact k.lf a ha
  · rcases List.mem_cons.mp ha with rfl | ha
    · rw [upd_same]; simp
    · exact (k.new h (o := o)).ld a ha
theorem OkH.less (k : OkH K F L H) {L' : List Addr} (h : ∀ a ∈ L', a ∈ L) : OkH K F L' H := ⟨k.ext, k.bag, k.mdom, k.mb, k.mc, fun a z => k.lf a (h a z), fun a z => k.ld a (h a z), k.hX⟩
/-- an owned object changes -/
theorem OkH.own (k : OkH K F L H) {p : Addr} {o : HO} (h : p ∈ L) : OkH K F L (upd H p o) := by
  refine ⟨fun a u n e => ?_, ?_, k.mdom, k.mb, k.mc, k.lf, fun a ha => ?_, k.hX⟩
  · have hne : a ≠ p := fun z => by
      subst z
      rw [k.lf a h] at e
      cases e
    rw [upd_ne hne]
    exact k.ext a u n e
  · intro b hb
    obtain ⟨cells, i, r, s, n, h0, h1, h2, h3⟩ := k.bag b hb
    have nb : b ≠ p := fun z => k.lb h (by rw [hb, z])
    have nc : F.c ≠ p := fun z => k.lm h (by rw [← z]; exact k.mc b hb)
    refine ⟨cells, i, r, s, n, h0, ?_, ?_, h3⟩
    · rw [upd_ne nb]; exact h1
    · rw [upd_ne nc]; exact h2
  · by_cases z : a = p
    · rw [z, upd_same]; simp
    · rw [upd_ne z]; exact k.ld a ha
end
end DL

end
section
namespace DL
open PySem L2

theorem gh_mono {K : PySem.W.Frag} {F : Fr} {L : List Addr} {H H' : Hp} (k : OkH K F L H) (e : Ext F.b H H') : Sub (gh F L H) (gh F L H') := fun a o h => by
  obtain ⟨h1, h2, h3⟩ := gh_some.mp h
  exact gh_some.mpr ⟨h1, h2, e a o (fun z => h1 (k.mb a z)) h3⟩
/-- a new object seen -/
theorem gh_new {K : PySem.W.Frag} {F : Fr} {L : List Addr} {H : Hp} {p : Addr} {o : HO} (k : OkH K F L H) (h : H p = none) : gh F L (upd H p o) p = some o := gh_some.mpr ⟨k.notM h, k.notL h, upd_same⟩
theorem gh_newL {F : Fr} {L : List Addr} {H : Hp} {p : Addr} {o : HO} (h : H p = none) : Sub (gh F L H) (gh F (p :: L) (upd H p o)) := fun a u e => by
  obtain ⟨h1, h2, h3⟩ := gh_some.mp e
  have n : a ≠ p := ne_of_none h3 h
  exact gh_some.mpr ⟨h1, fun z => by
    rcases List.mem_cons.mp z with z | z
    · exact n z
    · exact h2 z, by rw [upd_ne n]; exact h3⟩
/-- an owned object's change is not seen -/
theorem gh_own {F : Fr} {L : List Addr} {H : Hp} {p : Addr} {o : HO} (h : p ∈ L) : gh F L (upd H p o) = gh F L H := by
  funext a
  unfold gh
  split
  · rfl
  · rename_i hn
    have n : a ≠ p := fun z => hn (.inr (by rw [z]; exact h))
    rw [upd_ne n]

/-- what a body may change: a list, an instance, a dict of its own -/
inductive OD where
  | lst (l : List D) | ins (C : Addr) (l : List (Str × D)) | dct (l : List (Key × D))
  | slf (p C : Addr) (l : List (Str × D))
inductive SD where
  | none | val (d : D) | bag | own (o : OD)
/-- the object at an owned address -/
inductive OV (K : PySem.W.Frag) (G H : Hp) (p : Addr) : OD → Prop
  | lst {xs : List V} {ds : List D} : H p = some (.lst xs) → DVs K G xs ds → OV K G H p (.lst ds)
  | ins {C dx : Addr} {fs : List (Str × V)} {gs : List (Str × D)} : H p = some (.ins C dx fs) → DVf K G fs gs → OV K G H p (.ins C gs)
  | dct {fs : List (Key × V)} {gs : List (Key × D)} : H p = some (.dK fs) → DVk K G fs gs → OV K G H p (.dct gs)
  | slf {C dx : Addr} {fs : List (Str × V)} {gs : List (Str × D)} : H p = some (.ins C dx fs) → DVf K G fs gs → OV K G H p (.slf p C gs)
theorem OV.mono {K : PySem.W.Frag} {G G' H H' : Hp} {p : Addr} {o : OD} (s : Sub G G') (e : H' p = H p) (h : OV K G H p o) : OV K G' H' p o := by
  cases h with
  | lst h r => exact .lst (by rw [e]; exact h) (r.mono s)
  | ins h r => exact .ins (by rw [e]; exact h) (r.mono s)
  | dct h r => exact .dct (by rw [e]; exact h) (r.mono s)
  | slf h r => exact .slf (by rw [e]; exact h) (r.mono s)
@[reducible] def OD.toD : OD → D
  | .lst l => .lst l
  | .ins C l => .ins C l
  | .dct l => .dct l
  | .slf _ C l => .ins C l
theorem OV.see {K : PySem.W.Frag} {G H : Hp} {p : Addr} {o : OD} (h : OV K G H p o) (e : G p = H p) : DV K G (.ref p) o.toD := by
  cases h with
  | lst h r => exact .lst (by rw [e]; exact h) r
  | ins h r => exact .ins (by rw [e]; exact h) r
  | dct h r => exact .dct (by rw [e]; exact h) r
  | slf h r => exact .ins (by rw [e]; exact h) r

structure EnvOk (K : PySem.W.Frag) (F : Fr) (L : List Addr) (H : Hp) (σ : L2.St) (δ : List SD) : Prop where
  vals : ∀ (i : Nat) (d : D), δ[i]? = some (SD.val d) → ∃ v, σ[i]? = some (some v) ∧ DV K (gh F L H) v d
  bags : ∀ (i : Nat), δ[i]? = some SD.bag → ∃ a, F.b = some a ∧ σ[i]? = some (some (.ref a))
  owns : ∀ (i : Nat) (o : OD), δ[i]? = some (SD.own o) → ∃ p, σ[i]? = some (some (.ref p)) ∧ p ∈ L ∧ OV K (gh F L H) H p o
  dist : ∀ (i j : Nat) (o u : OD) (p : Addr), δ[i]? = some (SD.own o) → δ[j]? = some (SD.own u) → σ[i]? = some (some (.ref p)) → σ[j]? = some (some (.ref p)) → i = j
  len : δ.length ≤ σ.length
section
variable {K : PySem.W.Frag} {F : Fr} {L L' : List Addr} {H H' : Hp} {σ : L2.St} {δ : List SD} {i : Nat} {v : V} {d : D}
/-- owned things stay where they are, what is seen stays seen -/
theorem EnvOk.to (x : EnvOk K F L H σ δ) (s : Sub (gh F L H) (gh F L' H')) (o : ∀ p ∈ L, p ∈ L' ∧ H' p = H p) : EnvOk K F L' H' σ δ where
  vals := fun i d h => by
    obtain ⟨v, h1, h2⟩ := x.vals i d h
    exact ⟨v, h1, h2.mono s⟩
  bags := x.bags
  owns := fun i u h => by
    obtain ⟨p, h1, h2, h3⟩ := x.owns i u h
    exact ⟨p, h1, (o p h2).1, h3.mono s (o p h2).2⟩
  dist := x.dist
  len := x.len
theorem OkH.keepL (k : OkH K F L H) (e : Ext F.b H H') : ∀ p ∈ L, H' p = H p := fun p h => by
  cases q : H p with
  | none => exact absurd q (k.ld p h)
  | some o => exact e p o (k.lb h) q
theorem EnvOk.next (x : EnvOk K F L H σ δ) (k : OkH K F L H) (e : Ext F.b H H') : EnvOk K F L H' σ δ := x.to (gh_mono k e) fun p h => ⟨h, k.keepL e p h⟩
theorem EnvOk.newL {p : Addr} {o : HO} (x : EnvOk K F L H σ δ) (k : OkH K F L H) (h : H p = none) : EnvOk K F (p :: L) (upd H p o) σ δ :=
  x.to (gh_newL h) fun q hq => ⟨List.mem_cons_of_mem _ hq, k.keepL (.of_sub (.upd h)) q hq⟩
theorem get_set_eq {α : Type} {l : List α} {i : Nat} {x y : α} (h : (l.set i x)[i]? = some y) : y = x := by
  by_cases hi : i < l.length
  · rw [List.getElem?_set_self hi] at h
    exact (Option.some.inj h).symm
  · rw [List.getElem?_eq_none (by simpa using hi)] at h
    cases h
theorem get_set_lt {α : Type} {l : List α} {i : Nat} {x y : α} (h : (l.set i x)[i]? = some y) : i < l.length := by
  have := (List.getElem?_eq_some_iff.mp h).1
  simpa using this
theorem EnvOk.set (x : EnvOk K F L H σ δ) (h : DV K (gh F L H) v d) : EnvOk K F L H (σ.set i (some v)) (δ.set i (.val d)) where
  vals := fun j e hj => by
    by_cases z : i = j
    · subst z
      have e1 := get_set_eq hj
      have hl := get_set_lt hj
      cases e1
      exact ⟨v, List.getElem?_set_self (Nat.lt_of_lt_of_le hl x.len), h⟩
    · rw [List.getElem?_set_ne z] at hj ⊢
      exact x.vals j e hj
  bags := fun j hj => by
    by_cases z : i = j
    · subst z
      cases get_set_eq hj
    · rw [List.getElem?_set_ne z] at hj ⊢
      exact x.bags j hj
  owns := fun j e hj => by
    by_cases z : i = j
    · subst z
      cases get_set_eq hj
    · rw [List.getElem?_set_ne z] at hj ⊢
      exact x.owns j e hj
  dist := fun j k o u p h1 h2 h3 h4 => by
    by_cases z : i = j
    · subst z
      cases get_set_eq h1
    · by_cases y : i = k
      · subst y
        cases get_set_eq h2
      · rw [List.getElem?_set_ne z] at h1 h3
        rw [List.getElem?_set_ne y] at h2 h4
        exact x.dist j k o u p h1 h2 h3 h4
  len := by simpa using x.len
/-- a slot forgotten -/
theorem EnvOk.drop (x : EnvOk K F L H σ δ) (ov : Option V) : EnvOk K F L H (σ.set i ov) (δ.set i .none) where
  vals := fun j e hj => by
    by_cases z : i = j
    · subst z
      cases get_set_eq hj
    · rw [List.getElem?_set_ne z] at hj ⊢
      exact x.vals j e hj
  bags := fun j hj => by
    by_cases z : i = j
    · subst z
      cases get_set_eq hj
    · rw [List.getElem?_set_ne z] at hj ⊢
      exact x.bags j hj
  owns := fun j e hj => by
    by_cases z : i = j
    · subst z
      cases get_set_eq hj
    · rw [List.getElem?_set_ne z] at hj ⊢
      exact x.owns j e hj
  dist := fun j k o u p h1 h2 h3 h4 => by
    by_cases z : i = j
    · subst z
      cases get_set_eq h1
    · by_cases y : i = k
      · subst y
        cases get_set_eq h2
      · rw [List.getElem?_set_ne z] at h1 h3
        rw [List.getElem?_set_ne y] at h2 h4
        exact x.dist j k o u p h1 h2 h3 h4
  len := by simpa using x.len
/-- a new object of one's own, that no slot holds yet -/
theorem EnvOk.setOwn {p : Addr} {o : OD} (x : EnvOk K F L H σ δ) (hp : p ∈ L) (fr : ∀ (j : Nat) (u : OD), δ[j]? = some (SD.own u) → σ[j]? ≠ some (some (.ref p))) (h : OV K (gh F L H) H p o) : EnvOk K F L H (σ.set i (some (.ref p))) (δ.set i (.own o)) where
  vals := fun j e hj => by
    by_cases z : i = j
    · subst z
      cases get_set_eq hj
    · rw [List.getElem?_set_ne z] at hj ⊢
      exact x.vals j e hj
  bags := fun j hj => by
    by_cases z : i = j
    · subst z
      cases get_set_eq hj
    · rw [List.getElem?_set_ne z] at hj ⊢
      exact x.bags j hj
  owns := fun j e hj => by
    by_cases z : i = j
    · subst z
      have hl := get_set_lt hj
      cases get_set_eq hj
      exact ⟨p, List.getElem?_set_self (Nat.lt_of_lt_of_le hl x.len), hp, h⟩
    · rw [List.getElem?_set_ne z] at hj ⊢
      exact x.owns j e hj
  dist := fun j k o u q h1 h2 h3 h4 => by
    by_cases z : i = j
    · subst z
      cases get_set_eq h3
      by_cases y : i = k
      · exact y
      · rw [List.getElem?_set_ne y] at h2 h4
        exact absurd h4 (fr k u h2)
    · by_cases y : i = k
      · subst y
        cases get_set_eq h4
        rw [List.getElem?_set_ne z] at h1 h3
        exact absurd h3 (fr j o h1)
      · rw [List.getElem?_set_ne z] at h1 h3
        rw [List.getElem?_set_ne y] at h2 h4
        exact x.dist j k o u q h1 h2 h3 h4
  len := by simpa using x.len
/-- an owned object changes: the slot that holds it -/
theorem EnvOk.updOwn {p : Addr} {o u : OD} {ho : HO} (x : EnvOk K F L H σ δ) (hi : δ[i]? = some (SD.own o)) (hs : σ[i]? = some (some (.ref p))) (hp : p ∈ L) (h : OV K (gh F L H) (upd H p ho) p u) : EnvOk K F L (upd H p ho) σ (δ.set i (.own u)) where
  vals := fun j e hj => by
    by_cases z : i = j
    · subst z
      cases get_set_eq hj
    · rw [List.getElem?_set_ne z] at hj
      rw [gh_own hp]
      exact x.vals j e hj
  bags := fun j hj => by
    by_cases z : i = j
    · subst z
      cases get_set_eq hj
    · rw [List.getElem?_set_ne z] at hj
      exact x.bags j hj
  owns := fun j e hj => by
    rw [gh_own hp]
    by_cases z : i = j
    · subst z
      cases get_set_eq hj
      exact ⟨p, hs, hp, h⟩
    · rw [List.getElem?_set_ne z] at hj
      obtain ⟨q, h1, h2, h3⟩ := x.owns j e hj
      have n : q ≠ p := fun w => z (x.dist i j o e p hi hj hs (by rw [← w]; exact h1))
      exact ⟨q, h1, h2, h3.mono (Sub.refl _) (upd_ne n)⟩
  dist := fun j k a b q h1 h2 h3 h4 => by
    have f : ∀ (j : Nat) (a : OD), (δ.set i (SD.own u))[j]? = some (SD.own a) → ∃ a', δ[j]? = some (SD.own a') := fun j a hj => by
      by_cases z : i = j
      · subst z
        exact ⟨o, hi⟩
      · rw [List.getElem?_set_ne z] at hj
        exact ⟨a, hj⟩
    obtain ⟨a', h1'⟩ := f j a h1
    obtain ⟨b', h2'⟩ := f k b h2
    exact x.dist j k a' b' q h1' h2' h3 h4
  len := by simpa using x.len
theorem EnvOk.fresh {p : Addr} (x : EnvOk K F L H σ δ) (h : p ∉ L) : ∀ (j : Nat) (u : OD), δ[j]? = some (SD.own u) → σ[j]? ≠ some (some (.ref p)) := fun j u hj e => by
  obtain ⟨q, h1, h2, _⟩ := x.owns j u hj
  rw [e] at h1
  cases h1
  exact h h2
/-- an owned thing is shown: it is a value from now on -/
theorem EnvOk.freeze {o : OD} (x : EnvOk K F L H σ δ) (k : OkH K F L H) (hi : δ[i]? = some (SD.own o)) : ∃ L', (∀ a ∈ L', a ∈ L) ∧ OkH K F L' H ∧ EnvOk K F L' H σ (δ.set i (.val o.toD)) := by
  obtain ⟨p, h1, h2, h3⟩ := x.owns i o hi
  have hL : ∀ a ∈ L.filter (· ≠ p), a ∈ L := fun a ha => (List.mem_filter.mp ha).1
  have sb : Sub (gh F L H) (gh F (L.filter (· ≠ p)) H) := gh_drop hL
  have hd : DV K (gh F (L.filter (· ≠ p)) H) (.ref p) o.toD := by
    refine (h3.mono sb rfl).see ?_
    unfold gh
    rw [if_neg]
    rintro (z | z)
    · exact k.lm h2 z
    · simpa using (List.mem_filter.mp z).2
  refine ⟨L.filter (· ≠ p), hL, k.less hL, ⟨fun j e hj => ?_, fun j hj => ?_, fun j e hj => ?_, fun j n a b q g1 g2 g3 g4 => ?_, by simpa using x.len⟩⟩
  · by_cases z : i = j
    · subst z
      cases get_set_eq hj
      exact ⟨_, h1, hd⟩
    · rw [List.getElem?_set_ne z] at hj
      obtain ⟨v, e1, e2⟩ := x.vals j e hj
      exact ⟨v, e1, e2.mono sb⟩
  · by_cases z : i = j
    · subst z
      cases get_set_eq hj
    · rw [List.getElem?_set_ne z] at hj
      exact x.bags j hj
  · by_cases z : i = j
    · subst z
      cases get_set_eq hj
    · rw [List.getElem?_set_ne z] at hj
      obtain ⟨q, e1, e2, e3⟩ := x.owns j e hj
      have n : q ≠ p := fun w => z (x.dist i j o e p hi hj h1 (by rw [← w]; exact e1))
      exact ⟨q, e1, List.mem_filter.mpr ⟨e2, by simpa using n⟩, e3.mono sb rfl⟩
  · by_cases z : i = j
    · subst z
      cases get_set_eq g1
    · by_cases y : i = n
      · subst y
        cases get_set_eq g2
      · rw [List.getElem?_set_ne z] at g1
        rw [List.getElem?_set_ne y] at g2
        exact x.dist j n a b q g1 g2 g3 g4
end

/-- δ tells more than ε -/
def Wk (δ ε : List SD) : Prop := ∀ i : Nat, ε[i]? = none ∨ ε[i]? = some SD.none ∨ ε[i]? = δ[i]?
theorem Wk.refl (δ : List SD) : Wk δ δ := fun _ => .inr (.inr rfl)
theorem Wk.nil {δ : List SD} : Wk δ [] := fun _ => .inl rfl
theorem Wk.same {s : SD} {δ ε : List SD} (h : Wk δ ε) : Wk (s :: δ) (s :: ε) := fun i => match i with
  | 0 => .inr (.inr rfl)
  | i + 1 => by simpa using h i
theorem Wk.hide {s : SD} {δ ε : List SD} (h : Wk δ ε) : Wk (s :: δ) (.none :: ε) := fun i => match i with
  | 0 => .inr (.inl rfl)
  | i + 1 => by simpa using h i
theorem EnvOk.wk {K : PySem.W.Frag} {F : Fr} {L : List Addr} {H : Hp} {σ : L2.St} {δ ε : List SD} (x : EnvOk K F L H σ δ) (h : Wk δ ε) (hl : ε.length ≤ δ.length) : EnvOk K F L H σ ε where
  vals := fun i d e => by
    rcases h i with z | z | z
    · rw [z] at e; cases e
    · rw [z] at e; cases e
    · exact x.vals i d (by rw [← z]; exact e)
  bags := fun i e => by
    rcases h i with z | z | z
    · rw [z] at e; cases e
    · rw [z] at e; cases e
    · exact x.bags i (by rw [← z]; exact e)
  owns := fun i d e => by
    rcases h i with z | z | z
    · rw [z] at e; cases e
    · rw [z] at e; cases e
    · exact x.owns i d (by rw [← z]; exact e)
  dist := fun i j o u p e1 e2 e3 e4 => by
    refine x.dist i j o u p ?_ ?_ e3 e4
    · rcases h i with z | z | z
      · rw [z] at e1; cases e1
      · rw [z] at e1; cases e1
      · rw [← z]; exact e1
    · rcases h j with z | z | z
      · rw [z] at e2; cases e2
      · rw [z] at e2; cases e2
      · rw [← z]; exact e2
  len := Nat.le_trans hl x.len
end DL

end
section
namespace DL
open PySem L2

/-! ### judgements over data -/
/-- an expression's value -/
def WE (K : PySem.W.Frag) (F : Fr) (te : TE) (δ : List SD) (P : D → Prop) : Prop := ∀ (L : List Addr) (σ : L2.St) (H : Hp), OkH K F L H → EnvOk K F L H σ δ → ∀ Q : VK,
  (∀ v H' d, P d → Ext F.b H H' → OkH K F L H' → DV K (gh F L H') v d → Q v H') → te σ H Q
/-- a new list, that nothing else knows -/
def WN (K : PySem.W.Frag) (F : Fr) (te : TE) (δ : List SD) (P : List D → Prop) : Prop := ∀ (L : List Addr) (σ : L2.St) (H : Hp), OkH K F L H → EnvOk K F L H σ δ → ∀ Q : VK,
  (∀ p xs H' ds, P ds → H p = none → Ext F.b H H' → OkH K F (p :: L) H' → p ∉ L → H' p = some (.lst xs) → DVs K (gh F (p :: L) H') xs ds → Sub (gh F L H) (gh F (p :: L) H') → Q (.ref p) H') → te σ H Q
/-- a test's answer -/
def WT (K : PySem.W.Frag) (F : Fr) (tt : TT) (δ : List SD) (P : Bool → Prop) : Prop := ∀ (L : List Addr) (σ : L2.St) (H : Hp), OkH K F L H → EnvOk K F L H σ δ → ∀ Q : Bool → Hp → Prop,
  (∀ b H', P b → Ext F.b H H' → OkH K F L H' → Q b H') → tt σ H Q
/-- an argument: a value, the bag -/
def AV (K : PySem.W.Frag) (F : Fr) (G : Hp) : V → SD → Prop
  | v, .val d => DV K G v d
  | v, .bag => ∃ a, F.b = some a ∧ v = .ref a
  | _, _ => False
inductive AVs (K : PySem.W.Frag) (F : Fr) (G : Hp) : List V → List SD → Prop
  | nil : AVs K F G [] []
  | cons {v : V} {vs : List V} {d : SD} {ds : List SD} : AV K F G v d → AVs K F G vs ds → AVs K F G (v :: vs) (d :: ds)
def WA (K : PySem.W.Frag) (F : Fr) (ta : TA) (δ : List SD) (P : List SD → Prop) : Prop := ∀ (L : List Addr) (σ : L2.St) (H : Hp), OkH K F L H → EnvOk K F L H σ δ → ∀ Q : List V → Hp → Prop,
  (∀ vs H' as, P as → Ext F.b H H' → OkH K F L H' → AVs K F (gh F L H') vs as → Q vs H') → ta σ H Q
/-- operations upon values -/
def RD (K : PySem.W.Frag) (F : Fr) (r : R2) (x y : D) (P : D → Prop) : Prop := ∀ (L : List Addr) (H : Hp) (v u : V), OkH K F L H → DV K (gh F L H) v x → DV K (gh F L H) u y → ∀ Q : VK,
  (∀ z H' d, P d → Ext F.b H H' → OkH K F L H' → DV K (gh F L H') z d → Q z H') → r v u H Q
def RU (K : PySem.W.Frag) (F : Fr) (r : V → Hp → VK → Prop) (x : D) (P : D → Prop) : Prop := ∀ (L : List Addr) (H : Hp) (v : V), OkH K F L H → DV K (gh F L H) v x → ∀ Q : VK,
  (∀ z H' d, P d → Ext F.b H H' → OkH K F L H' → DV K (gh F L H') z d → Q z H') → r v H Q
def RC (K : PySem.W.Frag) (F : Fr) (r : List V → Hp → VK → Prop) (as : List SD) (P : D → Prop) : Prop := ∀ (L : List Addr) (H : Hp) (vs : List V), OkH K F L H → AVs K F (gh F L H) vs as → ∀ Q : VK,
  (∀ z H' d, P d → Ext F.b H H' → OkH K F L H' → DV K (gh F L H') z d → Q z H') → r vs H Q
def RM (K : PySem.W.Frag) (F : Fr) (r : V → List V → Hp → VK → Prop) (x : D) (as : List SD) (P : D → Prop) : Prop := ∀ (L : List Addr) (H : Hp) (v : V) (vs : List V), OkH K F L H → DV K (gh F L H) v x → AVs K F (gh F L H) vs as → ∀ Q : VK,
  (∀ z H' d, P d → Ext F.b H H' → OkH K F L H' → DV K (gh F L H') z d → Q z H') → r v vs H Q

section
variable {K : PySem.W.Frag} {F : Fr} {L : List Addr} {H H' : Hp} {σ : L2.St} {δ : List SD} {G G' : Hp}
theorem AV.mono (s : Sub G G') : ∀ {v : V} {d : SD}, AV K F G v d → AV K F G' v d
  | _, .val _, h => DV.mono s h
  | _, .bag, h => h
theorem AVs.mono (s : Sub G G') : ∀ {v : List V} {d : List SD}, AVs K F G v d → AVs K F G' v d
  | _, _, .nil => .nil
  | _, _, .cons h r => .cons (h.mono s) (AVs.mono s r)
theorem AVs.length : ∀ {v : List V} {d : List SD}, AVs K F G v d → v.length = d.length
  | _, _, .nil => rfl
  | _, _, .cons h r => congrArg (· + 1) (AVs.length r)
theorem AVs.app : ∀ {v w : List V} {d e : List SD}, AVs K F G v d → AVs K F G w e → AVs K F G (v ++ w) (d ++ e)
  | _, _, _, _, .nil, s => s
  | _, _, _, _, .cons h r, s => .cons h (AVs.app r s)
theorem AVs.vals : ∀ {v : List V} {ds : List D}, AVs K F G v (ds.map SD.val) → DVs K G v ds
  | _, [], .nil => .nil
  | _, _ :: _, .cons h r => .cons h (AVs.vals r)
theorem AVs.of : ∀ {v : List V} {ds : List D}, DVs K G v ds → AVs K F G v (ds.map SD.val)
  | _, _, .nil => .nil
  | _, _, .cons h r => .cons h (AVs.of r)

theorem WE.imp {te : TE} {P P' : D → Prop} (h : WE K F te δ P) (i : ∀ d, P d → P' d) : WE K F te δ P' := fun L σ H k x Q q => h L σ H k x Q fun v H' d p => q v H' d (i d p)
theorem WT.imp {te : TT} {P P' : Bool → Prop} (h : WT K F te δ P) (i : ∀ d, P d → P' d) : WT K F te δ P' := fun L σ H k x Q q => h L σ H k x Q fun v H' p => q v H' (i v p)
theorem WA.imp {te : TA} {P P' : List SD → Prop} (h : WA K F te δ P) (i : ∀ d, P d → P' d) : WA K F te δ P' := fun L σ H k x Q q => h L σ H k x Q fun v H' d p => q v H' d (i d p)
theorem RD.imp {r : R2} {x y : D} {P P' : D → Prop} (h : RD K F r x y P) (i : ∀ d, P d → P' d) : RD K F r x y P' := fun L H v u k a b Q q => h L H v u k a b Q fun v H' d p => q v H' d (i d p)

/-! ### expressions -/
theorem we_var {i : Nat} {d : D} {P : D → Prop} (h : δ[i]? = some (.val d)) (q : P d) : WE K F (tVar i) δ P := fun L σ H k x Q c => by
  obtain ⟨v, h1, h2⟩ := x.vals i d h
  exact ⟨v, h1, c v H d q (Ext.refl _ _) k h2⟩
theorem we_int {i : Int} {P : D → Prop} (q : P (.int i)) : WE K F (tC (.int i)) δ P := fun L σ H k x Q c => c _ H _ q (Ext.refl _ _) k (.int i)
theorem we_bl {i : Bool} {P : D → Prop} (q : P (.bl i)) : WE K F (tC (.bl i)) δ P := fun L σ H k x Q c => c _ H _ q (Ext.refl _ _) k (.bl i)
theorem we_str {i : Str} {P : D → Prop} (q : P (.str i)) : WE K F (tC (.str i)) δ P := fun L σ H k x Q c => c _ H _ q (Ext.refl _ _) k (.str i)
theorem we_non {P : D → Prop} (q : P .non) : WE K F (tC .non) δ P := fun L σ H k x Q c => c _ H _ q (Ext.refl _ _) k .non
theorem we_raw {v : V} {P : D → Prop} (q : P (.raw v)) : WE K F (tC v) δ P := fun L σ H k x Q c => c _ H _ q (Ext.refl _ _) k (.raw v)
theorem we_op {r : R2} {ta tb : TE} {P : D → Prop} (h : WE K F ta δ fun x => WE K F tb δ fun y => RD K F r x y P) : WE K F (tOp r ta tb) δ P := fun L σ H k x Q c =>
  h L σ H k x _ fun v H1 d p e1 k1 dv => p L σ H1 k1 (x.next k e1) _ fun u H2 e p2 e2 k2 du => p2 L H2 v u k2 (dv.mono (gh_mono k1 e2)) du Q fun z H3 f p3 e3 k3 dz => c z H3 f p3 ((e1.trans e2).trans e3) k3 dz
theorem we_un {r : V → Hp → VK → Prop} {ta : TE} {P : D → Prop} (h : WE K F ta δ fun x => RU K F r x P) : WE K F (tUn r ta) δ P := fun L σ H k x Q c =>
  h L σ H k x _ fun v H1 d p e1 k1 dv => p L H1 v k1 dv Q fun z H3 f p3 e3 k3 dz => c z H3 f p3 (e1.trans e3) k3 dz
theorem we_if {t : TT} {ta tb : TE} {P : D → Prop} (h : WT K F t δ fun b => (b = true → WE K F ta δ P) ∧ (b = false → WE K F tb δ P)) : WE K F (tIf t ta tb) δ P := fun L σ H k x Q c =>
  h L σ H k x _ fun b H1 p e1 k1 => by
    cases b with
    | true =>
      show ta σ H1 Q
      exact p.1 rfl L σ H1 k1 (x.next k e1) Q fun z H3 f p3 e3 k3 dz => c z H3 f p3 (e1.trans e3) k3 dz
    | false =>
      show tb σ H1 Q
      exact p.2 rfl L σ H1 k1 (x.next k e1) Q fun z H3 f p3 e3 k3 dz => c z H3 f p3 (e1.trans e3) k3 dz
theorem we_and {ta tb : TE} {P : D → Prop} (h : WE K F ta δ fun x => ∃ b, x = .bl b ∧ (b = true → WE K F tb δ P) ∧ (b = false → P (.bl false))) : WE K F (tAndV ta tb) δ P := fun L σ H k x Q c =>
  h L σ H k x _ fun v H1 d p e1 k1 dv => by
    obtain ⟨b, rfl, p1, p2⟩ := p
    cases dv.to_bl
    refine ⟨b, rfl, ?_⟩
    cases b with
    | true =>
      show tb σ H1 Q
      exact p1 rfl L σ H1 k1 (x.next k e1) Q fun z H3 f p3 e3 k3 dz => c z H3 f p3 (e1.trans e3) k3 dz
    | false => exact c _ H1 _ (p2 rfl) e1 k1 (.bl false)
theorem we_or {ta tb : TE} {P : D → Prop} (h : WE K F ta δ fun x => ∃ b, x = .bl b ∧ (b = false → WE K F tb δ P) ∧ (b = true → P (.bl true))) : WE K F (tOrV ta tb) δ P := fun L σ H k x Q c =>
  h L σ H k x _ fun v H1 d p e1 k1 dv => by
    obtain ⟨b, rfl, p1, p2⟩ := p
    cases dv.to_bl
    refine ⟨b, rfl, ?_⟩
    cases b with
    | false =>
      show tb σ H1 Q
      exact p1 rfl L σ H1 k1 (x.next k e1) Q fun z H3 f p3 e3 k3 dz => c z H3 f p3 (e1.trans e3) k3 dz
    | true => exact c _ H1 _ (p2 rfl) e1 k1 (.bl true)
theorem we_not {ta : TE} {P : D → Prop} (h : WE K F ta δ fun x => ∃ b, x = .bl b ∧ P (.bl (!b))) : WE K F (tNotV ta) δ P := fun L σ H k x Q c =>
  h L σ H k x _ fun v H1 d p e1 k1 dv => by
    obtain ⟨b, rfl, p1⟩ := p
    cases dv.to_bl
    exact ⟨b, rfl, c _ H1 _ p1 e1 k1 (.bl _)⟩
theorem we_chain {r r' : R2} {ta tb tc : TE} {P : D → Prop} (h : WE K F ta δ fun x => WE K F tb δ fun y => RD K F r x y fun z => ∃ b, z = .bl b ∧ (b = true → WE K F tc δ fun w => RD K F r' y w P) ∧ (b = false → P (.bl false))) : WE K F (tChain r r' ta tb tc) δ P := fun L σ H k x Q c =>
  h L σ H k x _ fun v H1 d p e1 k1 dv => p L σ H1 k1 (x.next k e1) _ fun u H2 e p2 e2 k2 du => p2 L H2 v u k2 (dv.mono (gh_mono k1 e2)) du _ fun z H3 f p3 e3 k3 dz => by
    obtain ⟨b, rfl, p4, p5⟩ := p3
    cases dz.to_bl
    refine ⟨b, rfl, ?_⟩
    cases b with
    | true =>
      exact p4 rfl L σ H3 k3 (x.next k ((e1.trans e2).trans e3)) _ fun w H4 g p6 e4 k4 dw => p6 L H4 u w k4 (du.mono (gh_mono k2 (e3.trans e4))) dw Q fun z H5 f p7 e5 k5 dz => c z H5 f p7 ((((e1.trans e2).trans e3).trans e4).trans e5) k5 dz
    | false => exact c _ H3 _ (p5 rfl) ((e1.trans e2).trans e3) k3 (.bl false)
theorem we_tup {ta : TA} {P : D → Prop} (h : WA K F ta δ fun as => ∃ ds : List D, as = ds.map SD.val ∧ ds.length ≤ 1000 ∧ P (.tup ds)) : WE K F (tTup ta) δ P := fun L σ H k x Q c =>
  h L σ H k x _ fun vs H1 as p e1 k1 av => by
    obtain ⟨ds, rfl, hl, p⟩ := p
    have dv := av.vals
    refine ⟨Nat.le_trans (by rw [dv.length]; exact hl) (by decide), fun a ha => ?_⟩
    exact c _ _ _ p (e1.trans (.of_sub (.upd ha))) (k1.new ha) (.tup (.inl (.inl (gh_new k1 ha))) (dv.mono (gh_mono k1 (.of_sub (.upd ha)))))
theorem we_lst {ta : TA} {P : D → Prop} (h : WA K F ta δ fun as => ∃ ds : List D, as = ds.map SD.val ∧ ds.length ≤ 1000 ∧ P (.lst ds)) : WE K F (tLst ta) δ P := fun L σ H k x Q c =>
  h L σ H k x _ fun vs H1 as p e1 k1 av => by
    obtain ⟨ds, rfl, hl, p⟩ := p
    have dv := av.vals
    refine ⟨Nat.le_trans (by rw [dv.length]; exact hl) (by decide), fun a ha => ?_⟩
    exact c _ _ _ p (e1.trans (.of_sub (.upd ha))) (k1.new ha) (.lst (gh_new k1 ha) (dv.mono (gh_mono k1 (.of_sub (.upd ha)))))
theorem wn_lst {ta : TA} {P : List D → Prop} (h : WA K F ta δ fun as => ∃ ds : List D, as = ds.map SD.val ∧ ds.length ≤ 1000 ∧ P ds) : WN K F (tLst ta) δ P := fun L σ H k x Q c =>
  h L σ H k x _ fun vs H1 as p e1 k1 av => by
    obtain ⟨ds, rfl, hl, p⟩ := p
    have dv := av.vals
    refine ⟨Nat.le_trans (by rw [dv.length]; exact hl) (by decide), fun a ha => ?_⟩
    have hf : H a = none := by
      cases q : H a with
      | none => rfl
      | some o =>
        by_cases z : F.b = some a
        · exact absurd ha (k1.bdom z)
        · rw [e1 a o z q] at ha
          cases ha
    exact c a vs _ ds p hf (e1.trans (.of_sub (.upd ha))) (k1.newL ha) (k1.notL ha) upd_same (dv.mono (gh_newL ha)) ((gh_mono k e1).trans (gh_newL ha))
/-- a new list as a value -/
theorem we_new {te : TE} {P : D → Prop} (h : WN K F te δ fun ds => P (.lst ds)) : WE K F te δ P := fun L σ H k x Q c =>
  h L σ H k x Q fun p xs H' ds hp hf e k' hn hH dv s => by
    have kk : OkH K F L H' := k'.less fun a ha => List.mem_cons_of_mem _ ha
    refine c _ H' _ hp e kk (.lst (gh_some.mpr ⟨k'.lm (List.mem_cons_self ..), hn, hH⟩) (dv.mono (gh_drop fun a ha => List.mem_cons_of_mem _ ha)))

theorem wa_nil {P : List SD → Prop} (q : P []) : WA K F tNil δ P := fun L σ H k x Q c => c [] H [] q (Ext.refl _ _) k .nil
theorem wa_cons {ta : TE} {tr : TA} {P : List SD → Prop} (h : WE K F ta δ fun d => WA K F tr δ fun as => P (.val d :: as)) : WA K F (tCons ta tr) δ P := fun L σ H k x Q c =>
  h L σ H k x _ fun v H1 d p e1 k1 dv => p L σ H1 k1 (x.next k e1) _ fun vs H2 as p2 e2 k2 av => c (v :: vs) H2 _ p2 (e1.trans e2) k2 (.cons (show DV K _ v d from dv.mono (gh_mono k1 e2)) av)
theorem wa_bag {i : Nat} {tr : TA} {P : List SD → Prop} (hi : δ[i]? = some SD.bag) (h : WA K F tr δ fun as => P (.bag :: as)) : WA K F (tCons (tVar i) tr) δ P := fun L σ H k x Q c => by
  obtain ⟨a, hb, h1⟩ := x.bags i hi
  exact ⟨_, h1, h L σ H k x _ fun vs H2 as p2 e2 k2 av => c (.ref a :: vs) H2 _ p2 e2 k2 (.cons ⟨a, hb, rfl⟩ av)⟩
theorem we_cb {r : List V → Hp → VK → Prop} {ta : TA} {P : D → Prop} (h : WA K F ta δ fun as => RC K F r as P) : WE K F (tCB r ta) δ P := fun L σ H k x Q c =>
  h L σ H k x _ fun vs H1 as p e1 k1 av => p L H1 vs k1 av Q fun z H3 f p3 e3 k3 dz => c z H3 f p3 (e1.trans e3) k3 dz

/-! ### tests -/
theorem wt_test {te : TE} {P : Bool → Prop} (h : WE K F te δ fun d => ∃ b, d = .bl b ∧ P b) : WT K F (tTest te) δ P := fun L σ H k x Q c =>
  h L σ H k x _ fun v H1 d p e1 k1 dv => by
    obtain ⟨b, rfl, p⟩ := p
    cases dv.to_bl
    exact ⟨b, rfl, c b H1 p e1 k1⟩
theorem wt_B {te : TE} {P : Bool → Prop} (h : WE K F te δ fun d => ∃ b, d = .bl b ∧ P b) : WT K F (tB te) δ P := fun L σ H k x Q c =>
  h L σ H k x _ fun v H1 d p e1 k1 dv => by
    obtain ⟨b, rfl, p⟩ := p
    cases dv.to_bl
    exact ⟨b, rfl, c b H1 p e1 k1⟩
theorem wt_and {t u : TT} {P : Bool → Prop} (h : WT K F t δ fun b => (b = true → WT K F u δ P) ∧ (b = false → P false)) : WT K F (tAnd t u) δ P := fun L σ H k x Q c =>
  h L σ H k x _ fun b H1 p e1 k1 => by
    cases b with
    | true =>
      show u σ H1 Q
      exact p.1 rfl L σ H1 k1 (x.next k e1) Q fun z H3 p3 e3 k3 => c z H3 p3 (e1.trans e3) k3
    | false => exact c false H1 (p.2 rfl) e1 k1
theorem wt_or {t u : TT} {P : Bool → Prop} (h : WT K F t δ fun b => (b = false → WT K F u δ P) ∧ (b = true → P true)) : WT K F (tOr t u) δ P := fun L σ H k x Q c =>
  h L σ H k x _ fun b H1 p e1 k1 => by
    cases b with
    | false =>
      show u σ H1 Q
      exact p.1 rfl L σ H1 k1 (x.next k e1) Q fun z H3 p3 e3 k3 => c z H3 p3 (e1.trans e3) k3
    | true => exact c true H1 (p.2 rfl) e1 k1
theorem wt_not {t : TT} {P : Bool → Prop} (h : WT K F t δ fun b => P (!b)) : WT K F (tNot t) δ P := fun L σ H k x Q c =>
  h L σ H k x _ fun b H1 p e1 k1 => c _ H1 p e1 k1
theorem wt_yes {P : Bool → Prop} (h : P true) : WT K F tYes δ P := fun L σ H k x Q c => c true H h (Ext.refl _ _) k

/-! ### calls of defs -/
/-- what a def asks of its arguments, what it gives, what it raises -/
abbrev DSp := List SD → (D → Prop) → (Value → List (Str × D) → Prop) → Prop
def spOf (K : PySem.W.Frag) (sp : DSp) : Sp := fun vs H Q E => ∃ (F : Fr) (as : List SD) (P : D → Prop), F.H0 = H ∧ OkH K F [] H ∧ F.E = E ∧ AVs K F (gh F [] H) vs as ∧ sp as P F.X ∧
  ∀ v H' d, P d → Ext F.b H H' → BagO F.c F.b H' → DV K (gh F [] H') v d → Q v H'
def X0 : Value → List (Str × D) → Prop := fun _ _ => False
/-- the frame of a callee -/
def Fr.call (F : Fr) (L : List Addr) (H : Hp) (E : XK) (X : Value → List (Str × D) → Prop) : Fr := { b := F.b, c := F.c, M := fun a => F.M a ∨ a ∈ L, H0 := H, E := E, X := X }
theorem gh_call {F : Fr} {L : List Addr} {H H' : Hp} {E : XK} {X : Value → List (Str × D) → Prop} : gh (F.call L H E X) [] H' = gh F L H' := by
  funext a
  by_cases h : F.M a ∨ a ∈ L
  · have e1 : gh F L H' a = none := by
      unfold gh
      rw [if_pos h]
    have e2 : gh (F.call L H E X) [] H' a = none := by
      unfold gh
      exact if_pos (Or.inl h)
    rw [e1, e2]
  · have e1 : gh F L H' a = H' a := by
      unfold gh
      rw [if_neg h]
    have e2 : gh (F.call L H E X) [] H' a = H' a := by
      unfold gh
      exact if_neg (fun z => by
        rcases z with z | z
        · exact h z
        · cases z)
    rw [e1, e2]
theorem OkH.call (k : OkH K F L H) : OkH K (F.call L H F.E F.X) [] H := by
  refine ⟨Ext.refl _ _, k.bag, fun a h => ?_, fun a h => .inl (k.mb a h), fun a h => .inl (k.mc a h), (fun a h => by cases h), (fun a h => by cases h), fun cls d fs H' hx e b v => ?_⟩
  · rcases h with h | h
    · intro z
      exact k.notM z h
    · exact k.ld a h
  · refine k.hX cls d fs H' hx (k.ext.trans e) b ?_
    cases d with
    | none => exact v
    | some a =>
      obtain ⟨vs, h1, h2⟩ := v
      refine ⟨vs, h1, ?_⟩
      rw [gh_call] at h2
      exact h2.mono (gh_drop fun a ha => by cases ha)
theorem OkH.call0 (k : OkH K F L H) : OkH K (F.call L H (fun _ _ _ => False) X0) [] H := by
  refine ⟨Ext.refl _ _, k.bag, fun a h => ?_, fun a h => .inl (k.mb a h), fun a h => .inl (k.mc a h), (fun a h => by cases h), (fun a h => by cases h), fun cls d fs H' hx e b v => False.elim hx⟩
  rcases h with h | h
  · intro z
    exact k.notM z h
  · exact k.ld a h
theorem AVs.to {F' : Fr} (hb : F'.b = F.b) : ∀ {v : List V} {d : List SD}, AVs K F G v d → AVs K F' G v d
  | _, _, .nil => .nil
  | _, _, .cons (d := d) h r => .cons (by
      cases d with
      | val d => exact h
      | bag =>
        obtain ⟨a, e1, e2⟩ := h
        exact ⟨a, hb.trans e1, e2⟩
      | none => exact h
      | own o => exact h) (AVs.to hb r)
/-- f(..), what it raises goes on -/
theorem we_call {E : XK} (hE : F.E = E) {sp : DSp} {dvs : List V} {dds : List D} {ta : TA} {P : D → Prop} (hd : ∀ G, DVs K G dvs dds) (h : WA K F ta δ fun as => sp (as ++ dds.map SD.val) P F.X) : WE K F (tCall (spOf K sp) dvs E ta) δ P := fun L σ H k x Q c =>
  h L σ H k x _ fun vs H1 as p e1 k1 av => ⟨F.call L H1 F.E F.X, as ++ dds.map SD.val, P, rfl, k1.call, hE, by
    rw [gh_call]
    exact AVs.to (F := F) (F' := F.call L H1 F.E F.X) rfl (av.app (AVs.of (hd _))), p, fun v H' d pd e b dv => c v H' d pd (e1.trans e) (k1.next e b) (by rw [gh_call] at dv; exact dv)⟩
/-- f(..) that raises nothing -/
theorem we_call0 {sp : DSp} {dvs : List V} {dds : List D} {ta : TA} {P : D → Prop} (hd : ∀ G, DVs K G dvs dds) (h : WA K F ta δ fun as => sp (as ++ dds.map SD.val) P X0) : WE K F (tCall (spOf K sp) dvs E0 ta) δ P := fun L σ H k x Q c =>
  h L σ H k x _ fun vs H1 as p e1 k1 av => ⟨F.call L H1 E0 X0, as ++ dds.map SD.val, P, rfl, k1.call0, rfl, by
    rw [gh_call]
    exact AVs.to (F := F) (F' := F.call L H1 E0 X0) rfl (av.app (AVs.of (hd _))), p, fun v H' d pd e b dv => c v H' d pd (e1.trans e) (k1.next e b) (by rw [gh_call] at dv; exact dv)⟩
/-- keywords: gV orders the values, gD what they are -/
theorem we_callK0 {sp : DSp} {gV : List V → List V → List V} (gD : List SD → List SD → List SD) {ta tk : TA} {P : D → Prop} (hg : ∀ G vs zs as bs, AVs K F G vs as → AVs K F G zs bs → AVs K F G (gV vs zs) (gD as bs))
    (h : WA K F ta δ fun as => WA K F tk δ fun bs => sp (gD as bs) P X0) : WE K F (tCallK (spOf K sp) gV E0 ta tk) δ P := fun L σ H k x Q c =>
  h L σ H k x _ fun vs H1 as p e1 k1 av => p L σ H1 k1 (x.next k e1) _ fun zs H2 bs p2 e2 k2 bv => ⟨F.call L H2 E0 X0, gD as bs, P, rfl, k2.call0, rfl, by
    rw [gh_call]
    exact AVs.to (F := F) (F' := F.call L H2 E0 X0) rfl (hg _ _ _ _ _ (av.mono (gh_mono k1 e2)) bv), p2, fun v H' d pd e b dv => c v H' d pd ((e1.trans e2).trans e) (k2.next e b) (by rw [gh_call] at dv; exact dv)⟩
end

/-! ### a def's body -/
def startD (N : List Str) (as : List SD) : List SD := as ++ List.replicate (N.length - as.length) .none
theorem AVs.start {K : PySem.W.Frag} {F : Fr} {H : Hp} {vs : List V} {as : List SD} {N : List Str} (k : OkH K F [] H) (h : AVs K F (gh F [] H) vs as) : EnvOk K F [] H (L2.start N vs) (startD N as) where
  vals := fun i d e => by
    unfold startD at e
    unfold L2.start
    by_cases hi : i < as.length
    · rw [List.getElem?_append_left hi] at e
      rw [List.getElem?_append_left (by rw [List.length_map, h.length]; exact hi)]
      have : ∀ {vs : List V} {as : List SD} {i : Nat}, AVs K F (gh F [] H) vs as → as[i]? = some (SD.val d) → ∃ v, (vs.map some)[i]? = some (some v) ∧ DV K (gh F [] H) v d := by
        intro vs as i h
        induction h generalizing i with
        | nil =>
          intro e
          simp at e
        | cons a r ih =>
          intro e
          cases i with
          | zero =>
            simp at e
            subst e
            exact ⟨_, rfl, a⟩
          | succ i =>
            obtain ⟨v, h1, h2⟩ := ih (i := i) (by simpa using e)
            exact ⟨v, by simpa using h1, h2⟩
      exact this h e
    · rw [List.getElem?_append_right (by omega)] at e
      have := List.eq_of_mem_replicate (List.mem_of_getElem? e)
      cases this
  bags := fun i e => by
    unfold startD at e
    unfold L2.start
    by_cases hi : i < as.length
    · rw [List.getElem?_append_left hi] at e
      rw [List.getElem?_append_left (by rw [List.length_map, h.length]; exact hi)]
      have : ∀ {vs : List V} {as : List SD} {i : Nat}, AVs K F (gh F [] H) vs as → as[i]? = some SD.bag → ∃ a, F.b = some a ∧ (vs.map some)[i]? = some (some (V.ref a)) := by
        intro vs as i h
        induction h generalizing i with
        | nil =>
          intro e
          simp at e
        | cons a r ih =>
          intro e
          cases i with
          | zero =>
            simp at e
            subst e
            obtain ⟨b, h1, rfl⟩ := a
            exact ⟨b, h1, rfl⟩
          | succ i =>
            obtain ⟨v, h1, h2⟩ := ih (i := i) (by simpa using e)
            exact ⟨v, h1, by simpa using h2⟩
      exact this h e
    · rw [List.getElem?_append_right (by omega)] at e
      have := List.eq_of_mem_replicate (List.mem_of_getElem? e)
      cases this
  owns := fun i o e => by
    exfalso
    have hm := List.mem_of_getElem? e
    unfold startD at hm
    rcases List.mem_append.mp hm with hm | hm
    · have : ∀ {vs : List V} {as : List SD}, AVs K F (gh F [] H) vs as → SD.own o ∉ as := by
        intro vs as h
        induction h with
        | nil => simp
        | cons a r ih =>
          intro z
          rcases List.mem_cons.mp z with z | z
          · subst z
            exact a
          · exact ih z
      exact this h hm
    · cases List.eq_of_mem_replicate hm
  dist := fun i j o u p e _ _ _ => by
    exfalso
    have hm := List.mem_of_getElem? e
    unfold startD at hm
    rcases List.mem_append.mp hm with hm | hm
    · have : ∀ {vs : List V} {as : List SD}, AVs K F (gh F [] H) vs as → SD.own o ∉ as := by
        intro vs as h
        induction h with
        | nil => simp
        | cons a r ih =>
          intro z
          rcases List.mem_cons.mp z with z | z
          · subst z
            exact a
          · exact ih z
      exact this h hm
    · cases List.eq_of_mem_replicate hm
  len := by
    unfold startD L2.start
    rw [List.length_append, List.length_append, List.length_map, List.length_replicate, List.length_replicate, h.length]
    exact Nat.le_refl _
end DL

end
section
namespace DL
open PySem L2

/-! ### targets -/
def WG (K : PySem.W.Frag) (F : Fr) (g : TG) (ts : List Nat) (d : D) (δ : List SD) (P : List SD → Prop) : Prop := ∀ (L : List Addr) (σ : L2.St) (H : Hp) (v : V), OkH K F L H → EnvOk K F L H σ δ → DV K (gh F L H) v d → ∀ Q : L2.St → Hp → Prop,
  (∀ σ' H' δ', P δ' → Ext F.b H H' → OkH K F L H' → EnvOk K F L H' σ' δ' → σ'.length = σ.length → (∀ (j : Nat), j ∉ ts → σ'[j]? = σ[j]?) → Q σ' H') → g v σ H Q
def WGs (K : PySem.W.Frag) (F : Fr) (g : TGs) (ts : List Nat) (ds : List D) (δ : List SD) (P : List SD → Prop) : Prop := ∀ (L : List Addr) (σ : L2.St) (H : Hp) (vs : List V), OkH K F L H → EnvOk K F L H σ δ → DVs K (gh F L H) vs ds → ∀ Q : L2.St → Hp → Prop,
  (∀ σ' H' δ', P δ' → Ext F.b H H' → OkH K F L H' → EnvOk K F L H' σ' δ' → σ'.length = σ.length → (∀ (j : Nat), j ∉ ts → σ'[j]? = σ[j]?) → Q σ' H') → g vs σ H Q
section
variable {K : PySem.W.Frag} {F : Fr} {L : List Addr} {H H' : Hp} {σ : L2.St} {δ : List SD} {G G' : Hp} {P : List SD → Prop}
theorem wg_name {i : Nat} {d : D} (q : P (δ.set i (.val d))) : WG K F (gName i) [i] d δ P := fun L σ H v k x dv Q c =>
  c _ H _ q (Ext.refl _ _) k (x.set dv) (by simp) fun j hj => List.getElem?_set_ne fun z => hj (by simp [z])
theorem wgs_nil (q : P δ) : WGs K F gNil [] [] δ P := fun L σ H vs k x dv Q c => by
  cases dv
  exact ⟨rfl, c σ H δ q (Ext.refl _ _) k x rfl fun _ _ => rfl⟩
theorem wgs_cons {g : TG} {u : TGs} {ts us : List Nat} {d : D} {ds : List D} (h : WG K F g ts d δ fun δ' => WGs K F u us ds δ' P) : WGs K F (gCons g u) (ts ++ us) (d :: ds) δ P := fun L σ H vs k x dv Q c => by
  cases dv with
  | cons a r =>
    exact ⟨_, _, rfl, h L σ H _ k x a _ fun σ1 H1 δ1 p e1 k1 x1 l1 f1 => p L σ1 H1 _ k1 x1 (r.mono (gh_mono k e1)) Q fun σ2 H2 δ2 p2 e2 k2 x2 l2 f2 =>
      c σ2 H2 δ2 p2 (e1.trans e2) k2 x2 (l2.trans l1) fun j hj => (f2 j fun z => hj (List.mem_append_right _ z)).trans (f1 j fun z => hj (List.mem_append_left _ z))⟩
theorem wg_tup {n : Nat} {t : TGs} {ts : List Nat} {ds : List D} (hn : ds.length = n) (h : WGs K F t ts ds δ P) : WG K F (gTup K n t) ts (.tup ds) δ P := fun L σ H v k x dv Q c => by
  obtain ⟨a, xs, rfl, h1, h2⟩ := dv.to_tup
  exact ⟨a, xs, rfl, gh_sub.t h1, h2.length.trans hn, h L σ H xs k x h2 Q c⟩

/-! ### statements -/
structure Cn where
  nx : List SD → Prop
  rt : D → Prop
  bk : List SD → Prop := fun _ => False
  ct : List SD → Prop := fun _ => False
  ro : List D → Prop := fun _ => False
structure EndsOk (K : PySem.W.Frag) (F : Fr) (G0 : Hp) (E : Ends) (C : Cn) : Prop where
  nx : ∀ L σ H δ, C.nx δ → OkH K F L H → EnvOk K F L H σ δ → Sub G0 (gh F L H) → E.nx σ H
  rt : ∀ v H d, C.rt d → OkH K F [] H → DV K (gh F [] H) v d → E.rt v H
  bk : ∀ L σ H δ, C.bk δ → OkH K F L H → EnvOk K F L H σ δ → Sub G0 (gh F L H) → E.bk σ H
  ct : ∀ L σ H δ, C.ct δ → OkH K F L H → EnvOk K F L H σ δ → Sub G0 (gh F L H) → E.ct σ H
  ro : ∀ L p xs H ds, C.ro ds → p ∈ L → H p = some (.lst xs) → OkH K F L H → DVs K (gh F L H) xs ds → E.rt (.ref p) H
def WS (K : PySem.W.Frag) (F : Fr) (ts : TS) (δ : List SD) (C : Cn) : Prop := ∀ (G0 : Hp) (E : Ends) (L : List Addr) (σ : L2.St) (H : Hp), OkH K F L H → EnvOk K F L H σ δ → Sub G0 (gh F L H) → EndsOk K F G0 E C → ts E σ H
variable {C : Cn}
theorem ws_next (q : C.nx δ) : WS K F tNext δ C := fun G0 E L σ H k x s h => h.nx L σ H δ q k x s
theorem ws_break (q : C.bk δ) : WS K F tBreak δ C := fun G0 E L σ H k x s h => h.bk L σ H δ q k x s
theorem ws_cont (q : C.ct δ) : WS K F tCont δ C := fun G0 E L σ H k x s h => h.ct L σ H δ q k x s
theorem ws_seq {t u : TS} (h : WS K F t δ { C with nx := fun δ' => WS K F u δ' C }) : WS K F (tSeq t u) δ C := fun G0 E L σ H k x s e =>
  h G0 _ L σ H k x s ⟨fun L1 σ1 H1 δ1 p k1 x1 s1 => p G0 E L1 σ1 H1 k1 x1 s1 e, e.rt, e.bk, e.ct, e.ro⟩
theorem ws_asg {te : TE} {g : TG} {ts : List Nat} (h : WE K F te δ fun d => WG K F g ts d δ C.nx) : WS K F (tAsg te g) δ C := fun G0 E L σ H k x s e =>
  h L σ H k x _ fun v H1 d p e1 k1 dv => p L σ H1 v k1 (x.next k e1) dv _ fun σ2 H2 δ2 p2 e2 k2 x2 _ _ => e.nx L σ2 H2 δ2 p2 k2 x2 (s.trans (gh_mono k (e1.trans e2)))
theorem ws_set {te : TE} {i : Nat} (h : WE K F te δ fun d => C.nx (δ.set i (.val d))) : WS K F (tAsg te (gName i)) δ C := ws_asg (ts := [i]) (h.imp fun d p => wg_name p)
theorem ws_own {te : TE} {i : Nat} (h : WN K F te δ fun ds => C.nx (δ.set i (.own (.lst ds)))) : WS K F (tAsg te (gName i)) δ C := fun G0 E L σ H k x s e =>
  h L σ H k x _ fun p xs H' ds hp hf e1 k' hn hH dv sb => by
    have x1 : EnvOk K F (p :: L) H' σ δ := x.to sb fun q hq => ⟨List.mem_cons_of_mem _ hq, k.keepL e1 q hq⟩
    refine e.nx (p :: L) _ H' _ hp k' (x1.setOwn (List.mem_cons_self ..) (fun j u hj => ?_) (.lst hH dv)) (s.trans sb)
    exact x.fresh hn j u hj
theorem ws_drop {te : TE} (h : WE K F te δ fun _ => C.nx δ) : WS K F (tDrop te) δ C := fun G0 E L σ H k x s e =>
  h L σ H k x _ fun v H1 d p e1 k1 dv => e.nx L σ H1 δ p k1 (x.next k e1) (s.trans (gh_mono k e1))
theorem ws_ret {te : TE} (h : WE K F te δ C.rt) : WS K F (tRet te) δ C := fun G0 E L σ H k x s e =>
  h L σ H k x _ fun v H1 d p e1 k1 dv => e.rt v H1 d p (k1.less fun a ha => by cases ha) (dv.mono (gh_drop fun a ha => by cases ha))
theorem ws_retN (h : C.rt .non) : WS K F tRetN δ C := fun G0 E L σ H k x s e => e.rt .non H _ h (k.less fun a ha => by cases ha) .non
/-- from here on an owned thing is a value -/
theorem ws_freeze {i : Nat} {o : OD} {ts : TS} (hi : δ[i]? = some (SD.own o)) (h : WS K F ts (δ.set i (.val o.toD)) C) : WS K F ts δ C := fun G0 E L σ H k x s e => by
  obtain ⟨L', h1, k', x'⟩ := x.freeze k hi
  exact h G0 E L' σ H k' x' (s.trans (gh_drop h1)) e
theorem ws_wk {ε : List SD} {ts : TS} (hw : Wk δ ε) (hl : ε.length ≤ δ.length) (h : WS K F ts ε C) : WS K F ts δ C := fun G0 E L σ H k x s e => h G0 E L σ H k (x.wk hw hl) s e
theorem ws_if {c : TT} {t u : TS} (h : WT K F c δ fun b => (b = true → WS K F t δ C) ∧ (b = false → WS K F u δ C)) : WS K F (tIfS c t u) δ C := fun G0 E L σ H k x s e =>
  h L σ H k x _ fun b H1 p e1 k1 => by
    cases b with
    | true =>
      show t E σ H1
      exact p.1 rfl G0 E L σ H1 k1 (x.next k e1) (s.trans (gh_mono k e1)) e
    | false =>
      show u E σ H1
      exact p.2 rfl G0 E L σ H1 k1 (x.next k e1) (s.trans (gh_mono k e1)) e
theorem ws_par {i j : Nat} {ta : TA} (h : WA K F ta δ fun as => ∃ d e, as = [.val d, .val e] ∧ C.nx ((δ.set i (.val d)).set j (.val e))) : WS K F (tPar i j ta) δ C := fun G0 E L σ H k x s e =>
  h L σ H k x _ fun vs H1 as p e1 k1 av => by
    obtain ⟨d, d', rfl, p⟩ := p
    cases av with
    | cons a r =>
      cases r with
      | cons b r =>
        cases r
        exact ⟨_, _, rfl, e.nx L _ H1 _ p k1 (((x.next k e1).set a).set b) (s.trans (gh_mono k e1))⟩
/-- xs.append(e), xs one's own -/
theorem ws_append {i : Nat} {te : TE} {ds : List D} (hi : δ[i]? = some (SD.own (.lst ds))) (hl : ds.length ≤ 100000) (h : WE K F te δ fun d => C.nx (δ.set i (.own (.lst (ds ++ [d]))))) :
    WS K F (tDrop (tBM K "list" rAppend (tVar i) (tCons te tNil))) δ C := fun G0 E L σ H k x s e => by
  obtain ⟨p, h1, h2, h3⟩ := x.owns i _ hi
  refine ⟨.ref p, h1, ?_⟩
  cases h3 with
  | lst hH hd =>
    refine ⟨.inl ⟨rfl, _, .inl (.inl hH)⟩, ?_⟩
    refine h L σ H k x _ fun v H1 d pd e1 k1 dv => ?_
    have hH1 := (k.keepL e1 p h2).trans hH
    have hd1 := hd.mono (gh_mono k e1)
    refine ⟨p, _, v, rfl, rfl, hH1, Nat.lt_of_le_of_lt (by rw [hd.length]; exact hl) (by decide), ?_⟩
    refine e.nx L σ _ _ pd (k1.own h2) ((x.next k e1).updOwn hi h1 h2 (.lst upd_same ?_)) ?_
    · exact hd1.append (.cons dv .nil)
    · rw [gh_own h2]
      exact s.trans (gh_mono k e1)
theorem ws_while {c : TT} {tb : TS} (Inv : Nat → List SD → Prop) (m0 : Nat) (h0 : Inv m0 δ)
    (h : ∀ m δ', Inv m δ' → WT K F c δ' fun b => (b = true → WS K F tb δ' ⟨fun δ2 => ∃ m', m' < m ∧ Inv m' δ2, C.rt, C.nx, fun δ2 => ∃ m', m' < m ∧ Inv m' δ2, C.ro⟩) ∧ (b = false → C.nx δ')) : WS K F (tWhile c tb) δ C := fun G0 E L σ H k x s e => by
  refine ⟨fun m σ H => ∃ L δ', Inv m δ' ∧ OkH K F L H ∧ EnvOk K F L H σ δ' ∧ Sub G0 (gh F L H), ⟨m0, L, δ, h0, k, x, s⟩, ?_⟩
  rintro m σ1 H1 ⟨L1, δ1, i1, k1, x1, s1⟩
  refine h m δ1 i1 L1 σ1 H1 k1 x1 _ fun b H2 p e2 k2 => ?_
  have x2 := x1.next k1 e2
  have s2 := s1.trans (gh_mono k1 e2)
  cases b with
  | true =>
    exact ⟨fun σ H => ∃ m', m' < m ∧ ∃ L δ', Inv m' δ' ∧ OkH K F L H ∧ EnvOk K F L H σ δ' ∧ Sub G0 (gh F L H), fun σ' H' w => w,
      p.1 rfl G0 _ L1 σ1 H2 k2 x2 s2 ⟨fun L3 σ3 H3 δ3 ⟨m', hm, p3⟩ k3 x3 s3 => ⟨m', hm, L3, δ3, p3, k3, x3, s3⟩, e.rt, e.nx, fun L3 σ3 H3 δ3 ⟨m', hm, p3⟩ k3 x3 s3 => ⟨m', hm, L3, δ3, p3, k3, x3, s3⟩, e.ro⟩⟩
  | false => exact e.nx L1 σ1 H2 δ1 (p.2 rfl) k2 x2 s2

/-! ### what is walked -/
def ItD (K : PySem.W.Frag) (F : Fr) (J : It) (G1 : Hp) (ds : List D) : Prop := ∀ L H, OkH K F L H → Sub G1 (gh F L H) → ∀ i, (ds.length ≤ i → J.stop i H) ∧ ∀ d, ds[i]? = some d → J.go i H ∧ ∀ x H', J.yld i H x H' → Ext F.b H H' ∧ OkH K F L H' ∧ DV K (gh F L H') x d
def WI (K : PySem.W.Frag) (F : Fr) (wi : TI) (δ : List SD) (P : List D → Prop) : Prop := ∀ (L : List Addr) (σ : L2.St) (H : Hp), OkH K F L H → EnvOk K F L H σ δ → ∀ R : It → Hp → Prop,
  (∀ J H' ds, P ds → Ext F.b H H' → OkH K F L H' → ItD K F J (gh F L H') ds → R J H') → wi σ H R
theorem WI.imp {wi : TI} {P P' : List D → Prop} (h : WI K F wi δ P) (i : ∀ d, P d → P' d) : WI K F wi δ P' := fun L σ H k x R r => h L σ H k x R fun J H' ds p => r J H' ds (i ds p)
theorem ws_for {wi : TI} {g : TG} {ts : List Nat} {tb : TS} (h : WI K F wi δ fun ds => ∃ Inv : Nat → List SD → Prop, Inv 0 δ ∧
      (∀ i d δ', ds[i]? = some d → Inv i δ' → WG K F g ts d δ' fun δ2 => WS K F tb δ2 ⟨Inv (i + 1), C.rt, C.nx, Inv (i + 1), C.ro⟩) ∧ ∀ δ', Inv ds.length δ' → C.nx δ') : WS K F (tFor wi g tb) δ C := fun G0 E L σ H k x s e => by
  refine h L σ H k x _ fun J H1 ds p e1 k1 jt => ?_
  obtain ⟨Inv, p0, pt, pe⟩ := p
  have s1 := s.trans (gh_mono k e1)
  refine ⟨fun i m σ H => m = ds.length - i ∧ i ≤ ds.length ∧ ∃ L' δ', Inv i δ' ∧ OkH K F L' H ∧ EnvOk K F L' H σ δ' ∧ Sub (gh F L H1) (gh F L' H), ⟨ds.length, by simp, Nat.zero_le _, L, δ, p0, k1, x.next k e1, Sub.refl _⟩, ?_⟩
  rintro i m σ2 H2 ⟨rfl, hi, L2, δ2, i2, k2, x2, s2⟩
  obtain ⟨hs, hg⟩ := jt L2 H2 k2 s2 i
  by_cases hlt : i < ds.length
  · obtain ⟨go, hy⟩ := hg ds[i] (List.getElem?_eq_getElem hlt)
    refine .inr ⟨go, fun σ H => i < ds.length ∧ ∃ L' δ', Inv (i + 1) δ' ∧ OkH K F L' H ∧ EnvOk K F L' H σ δ' ∧ Sub (gh F L H1) (gh F L' H), fun σ' H' w => ⟨ds.length - (i + 1), by omega, rfl, by omega, w.2⟩, fun v H3 y => ?_⟩
    obtain ⟨e3, k3, dv⟩ := hy v H3 y
    have s3 := s2.trans (gh_mono k2 e3)
    refine pt i ds[i] δ2 (List.getElem?_eq_getElem hlt) i2 L2 σ2 H3 v k3 (x2.next k2 e3) dv _ fun σ4 H4 δ4 p4 e4 k4 x4 _ _ => ?_
    refine p4 (gh F L H1) _ L2 σ4 H4 k4 x4 (s3.trans (gh_mono k3 e4)) ⟨fun L5 σ5 H5 δ5 p5 k5 x5 s5 => ⟨hlt, L5, δ5, p5, k5, x5, s5⟩, e.rt, fun L5 σ5 H5 δ5 p5 k5 x5 s5 => e.nx L5 σ5 H5 δ5 p5 k5 x5 (s1.trans s5), fun L5 σ5 H5 δ5 p5 k5 x5 s5 => ⟨hlt, L5, δ5, p5, k5, x5, s5⟩, e.ro⟩
  · have ei : i = ds.length := by omega
    subst ei
    exact .inl ⟨hs (Nat.le_refl _), e.nx L2 σ2 H2 δ2 (pe δ2 i2) k2 x2 (s1.trans s2)⟩
theorem wi_list {tl : TE} {P : List D → Prop} (h : WE K F tl δ fun d => ∃ ds, d = .lst ds ∧ P ds) : WI K F (iList K tl) δ P := fun L σ H k x R r =>
  h L σ H k x _ fun v H1 d p e1 k1 dv => by
    obtain ⟨ds, rfl, p⟩ := p
    obtain ⟨a, xs, rfl, h1, h2⟩ := dv.to_lst
    refine ⟨a, rfl, ⟨xs, sqL (gh_sub _ _ h1)⟩, r _ H1 ds p e1 k1 fun L' H' k' s' i => ⟨fun hi => ⟨xs, sqL (gh_sub _ _ (s' _ _ h1)), by rw [h2.length]; exact hi⟩, fun d hd => ?_⟩⟩
    obtain ⟨v, g1, g2⟩ := h2.get hd
    refine ⟨⟨xs, v, sqL (gh_sub _ _ (s' _ _ h1)), g1⟩, fun y H3 ⟨e, hy⟩ => ?_⟩
    subst e
    have := hy xs (sqL (gh_sub _ _ (s' _ _ h1)))
    rw [g1] at this
    cases this
    exact ⟨Ext.refl _ _, k', g2.mono s'⟩
theorem wi_tup {tl : TE} {P : List D → Prop} (h : WE K F tl δ fun d => ∃ ds, d = .tup ds ∧ P ds) : WI K F (iTup K tl) δ P := fun L σ H k x R r =>
  h L σ H k x _ fun v H1 d p e1 k1 dv => by
    obtain ⟨ds, rfl, p⟩ := p
    obtain ⟨a, xs, rfl, h1, h2⟩ := dv.to_tup
    refine ⟨a, rfl, ⟨xs, gh_sub.t h1⟩, r _ H1 ds p e1 k1 fun L' H' k' s' i => ⟨fun hi => ⟨xs, gh_sub.t (s'.t h1), by rw [h2.length]; exact hi⟩, fun d hd => ?_⟩⟩
    obtain ⟨v, g1, g2⟩ := h2.get hd
    refine ⟨⟨xs, v, gh_sub.t (s'.t h1), g1⟩, fun y H3 ⟨e, hy⟩ => ?_⟩
    subst e
    have := hy xs (gh_sub.t (s'.t h1))
    rw [g1] at this
    cases this
    exact ⟨Ext.refl _ _, k', g2.mono s'⟩
def rng (lo : Int) (n : Nat) : List D := (List.range n).map fun (i : Nat) => D.int (lo + (i : Int))
theorem rng_length {lo : Int} {n : Nat} : (rng lo n).length = n := by simp [rng]
theorem rng_get {lo : Int} {n i : Nat} {d : D} (h : (rng lo n)[i]? = some d) : i < n ∧ d = .int (lo + (i : Int)) := by
  unfold rng at h
  rw [List.getElem?_map] at h
  by_cases hi : i < n
  · rw [List.getElem?_range hi] at h
    exact ⟨hi, (Option.some.inj h).symm⟩
  · rw [List.getElem?_eq_none (by simpa using hi)] at h
    cases h
theorem itd_rng {lo : Int} {n : Nat} {G1 : Hp} : ItD K F (Itr lo n) G1 (rng lo n) := fun L' H' k' s' i => ⟨fun hi => by rw [rng_length] at hi; exact hi, fun d hd => by
  obtain ⟨h1, rfl⟩ := rng_get hd
  refine ⟨h1, fun y H3 ⟨e, hy⟩ => ?_⟩
  subst e hy
  exact ⟨Ext.refl _ _, k', .int _⟩⟩
theorem wi_rng1 {ta : TA} {P : List D → Prop} (h : WA K F ta δ fun as => ∃ j : Int, as = [.val (.int j)] ∧ -(2 ^ 62) ≤ j ∧ j < 2 ^ 62 ∧ P (rng 0 j.toNat)) : WI K F (iRng1 ta) δ P := fun L σ H k x R r =>
  h L σ H k x _ fun vs H1 as p e1 k1 av => by
    obtain ⟨j, rfl, h1, h2, p⟩ := p
    cases av with
    | cons a t =>
      cases t
      cases DV.to_int a
      exact ⟨j, rfl, h1, h2, r _ H1 _ p e1 k1 itd_rng⟩
theorem wi_rng2 {ta : TA} {P : List D → Prop} (h : WA K F ta δ fun as => ∃ i j : Int, as = [.val (.int i), .val (.int j)] ∧ (-(2 ^ 62) ≤ i ∧ i < 2 ^ 62 ∧ -(2 ^ 62) ≤ j ∧ j < 2 ^ 62) ∧ P (rng i (j - i).toNat)) : WI K F (iRng2 ta) δ P := fun L σ H k x R r =>
  h L σ H k x _ fun vs H1 as p e1 k1 av => by
    obtain ⟨i, j, rfl, h1, p⟩ := p
    cases av with
    | cons a t =>
      cases t with
      | cons b t =>
        cases t
        cases DV.to_int a
        cases DV.to_int b
        exact ⟨i, j, rfl, h1, r _ H1 _ p e1 k1 itd_rng⟩

/-! ### comprehensions -/
def wipeD (δ : List SD) : List Nat → List SD
  | [] => δ
  | v :: vs => (wipeD δ vs).set v .none
theorem EnvOk.wipe (x : EnvOk K F L H σ δ) : ∀ vs : List Nat, EnvOk K F L H (wipe σ vs) (wipeD δ vs)
  | [] => x
  | v :: vs => (EnvOk.wipe x vs).drop none
theorem wipe_get (σ : L2.St) (j : Nat) : ∀ vs : List Nat, (wipe σ vs)[j]? = if j ∈ vs then (if j < σ.length then some none else none) else σ[j]?
  | [] => by simp [L2.wipe]
  | v :: vs => by
    unfold L2.wipe
    have ih := wipe_get σ j vs
    by_cases hv : v = j
    · subst hv
      rw [if_pos (List.mem_cons_self ..)]
      by_cases hl : v < σ.length
      · rw [if_pos hl, List.getElem?_set_self (by rw [wipe_length]; exact hl)]
      · rw [if_neg hl, List.getElem?_eq_none (by rw [List.length_set, wipe_length]; omega)]
    · rw [List.getElem?_set_ne hv, ih]
      by_cases hj : j ∈ vs
      · rw [if_pos hj, if_pos (List.mem_cons_of_mem _ hj)]
      · rw [if_neg hj, if_neg (by simp [hj]; exact fun z => hv z.symm)]
theorem wipe_same {σ' σ : L2.St} {vs ts : List Nat} (hl : σ'.length = (wipe σ vs).length) (hf : ∀ (j : Nat), j ∉ ts → σ'[j]? = (wipe σ vs)[j]?) (ht : ∀ t ∈ ts, t ∈ vs) : wipe σ' vs = wipe σ vs := by
  apply List.ext_getElem?
  intro j
  rw [wipe_get, wipe_get]
  rw [wipe_length] at hl
  by_cases hj : j ∈ vs
  · rw [if_pos hj, if_pos hj, hl]
  · rw [if_neg hj, if_neg hj, hf j fun z => hj (ht j z), wipe_get, if_neg hj]
theorem wn_lc {wi : TI} {g : TG} {tt : TT} {te : TE} {vs ts : List Nat} {P : List D → Prop} (ht : ∀ t ∈ ts, t ∈ vs)
    (h : WI K F wi δ fun ds => ∃ Inv : Nat → List D → Prop, Inv 0 [] ∧ ds.length ≤ 100000 ∧
      (∀ i d acc, ds[i]? = some d → Inv i acc → WG K F g ts d (wipeD δ vs) fun δ2 => WT K F tt δ2 fun b => (b = true → WE K F te δ2 fun y => Inv (i + 1) (acc ++ [y])) ∧ (b = false → Inv (i + 1) acc)) ∧
      ∀ acc, Inv ds.length acc → P acc) : WN K F (tLc wi g tt te vs) δ P := fun L σ H k x Q c => by
  refine h L σ H k x _ fun J H1 ds p e1 k1 jt => ?_
  obtain ⟨Inv, p0, hlen, pt, pe⟩ := p
  intro Dl hD
  have hn : Dl ∉ L := k1.notL hD
  have hDH : H Dl = none := by
    cases q : H Dl with
    | none => rfl
    | some o =>
      by_cases z : F.b = some Dl
      · exact absurd hD (k1.bdom z)
      · rw [e1 Dl o z q] at hD
        cases hD
  refine ⟨fun i m H => m = ds.length - i ∧ i ≤ ds.length ∧ ∃ acc xs, Inv i acc ∧ acc.length ≤ i ∧ OkH K F (Dl :: L) H ∧ H Dl = some (.lst xs) ∧ DVs K (gh F (Dl :: L) H) xs acc ∧ Sub (gh F L H1) (gh F (Dl :: L) H) ∧ Ext F.b H1 H,
    ⟨ds.length, by simp, Nat.zero_le _, [], [], p0, Nat.le_refl _, k1.newL hD, upd_same, .nil, gh_newL hD, .of_sub (.upd hD)⟩, ?_⟩
  rintro i m H2 ⟨rfl, hi, acc, xs, i2, la, k2, hH, dv, s2, e2⟩
  obtain ⟨hs, hg⟩ := jt (Dl :: L) H2 k2 s2 i
  have x2 : EnvOk K F (Dl :: L) H2 σ δ := (x.next k e1).to s2 fun q hq => ⟨List.mem_cons_of_mem _ hq, k1.keepL e2 q hq⟩
  by_cases hlt : i < ds.length
  · obtain ⟨go, hy⟩ := hg ds[i] (List.getElem?_eq_getElem hlt)
    refine .inr ⟨go, fun H => i < ds.length ∧ ∃ acc xs, Inv (i + 1) acc ∧ acc.length ≤ i + 1 ∧ OkH K F (Dl :: L) H ∧ H Dl = some (.lst xs) ∧ DVs K (gh F (Dl :: L) H) xs acc ∧ Sub (gh F L H1) (gh F (Dl :: L) H) ∧ Ext F.b H1 H,
      fun H' w => ⟨ds.length - (i + 1), by omega, rfl, by omega, w.2⟩, fun v H3 y => ?_⟩
    obtain ⟨e3, k3, dx⟩ := hy v H3 y
    refine pt i ds[i] acc (List.getElem?_eq_getElem hlt) i2 (Dl :: L) (wipe σ vs) H3 v k3 ((x2.next k2 e3).wipe vs) dx _ fun σ4 H4 δ4 p4 e4 k4 x4 l4 f4 => ⟨wipe_same l4 f4 ht, ?_⟩
    refine p4 (Dl :: L) σ4 H4 k4 x4 _ fun b H5 p5 e5 k5 => ?_
    have e25 := (e3.trans e4).trans e5
    have hH5 : H5 Dl = some (.lst xs) := (k2.keepL e25 Dl (List.mem_cons_self ..)).trans hH
    cases b with
    | true =>
      show te σ4 H5 _
      refine p5.1 rfl (Dl :: L) σ4 H5 k5 (x4.next k4 e5) _ fun u H6 d6 p6 e6 k6 dv6 => ?_
      have hH6 : H6 Dl = some (.lst xs) := (k5.keepL e6 Dl (List.mem_cons_self ..)).trans hH5
      have m : Dl ∈ Dl :: L := List.mem_cons_self ..
      refine ⟨xs, hH6, Nat.lt_of_le_of_lt (by rw [dv.length]; omega : xs.length ≤ 100000) (by decide), hlt, acc ++ [d6], xs ++ [u], p6, by simp; omega, k6.own m, upd_same, ?_, ?_, ?_⟩
      · rw [gh_own m]
        exact (dv.mono (gh_mono k2 (e25.trans e6))).append (.cons dv6 .nil)
      · rw [gh_own m]
        exact s2.trans (gh_mono k2 (e25.trans e6))
      · intro a o n z
        rw [upd_ne (ne_of_none z hD)]
        exact (e25.trans e6) a o n (e2 a o n z)
    | false =>
      show i < ds.length ∧ _
      exact ⟨hlt, acc, xs, p5.2 rfl, by omega, k5, hH5, dv.mono (gh_mono k2 e25), s2.trans (gh_mono k2 e25), e2.trans e25⟩
  · have ei : i = ds.length := by omega
    subst ei
    exact .inl ⟨hs (Nat.le_refl _), c Dl xs H2 acc (pe acc i2) hDH (e1.trans e2) k2 hn hH dv ((gh_mono k e1).trans s2)⟩
/-- a def's body told over data -/
theorem fn_body {sp : DSp} {vs : List V} {Q : VK} {E : XK} {t : TS} {N : List Str} (h : spOf K sp vs H Q E)
    (hb : ∀ (F : Fr) (as : List SD) (P : D → Prop), F.E = E → sp as P F.X → WS K F t (startD N as) ⟨fun _ => P .non, P, fun _ => False, fun _ => False, fun _ => False⟩) : t { nx := fun _ H' => Q .non H', rt := Q } (L2.start N vs) H := by
  obtain ⟨F, as, P, e0, k, eE, av, hs, q⟩ := h
  subst e0
  refine hb F as P eE hs (gh F [] F.H0) _ [] _ _ k (AVs.start k av) (Sub.refl _) ⟨fun L σ H' δ p k' x s => ?_, fun v H' d p k' dv => q v H' d p k'.ext k'.bag dv, fun L σ H' δ p => p.elim, fun L σ H' δ p => p.elim, fun L p xs H' ds z => z.elim⟩
  exact q .non H' .non p k'.ext k'.bag .non
/-! ### a new list handed out -/
abbrev NSp := List SD → (List D → Prop) → Prop
def spNOf (K : PySem.W.Frag) (sp : NSp) : Sp := fun vs H Q E => ∃ (F : Fr) (as : List SD) (P : List D → Prop), F.H0 = H ∧ OkH K F [] H ∧ F.E = E ∧ AVs K F (gh F [] H) vs as ∧ sp as P ∧
  ∀ p xs H' ds, P ds → H p = none → Ext F.b H H' → BagO F.c F.b H' → H' p = some (.lst xs) → DVs K (gh F [p] H') xs ds → Q (.ref p) H'
theorem spNOf_len {sp : NSp} {n : Nat} (hl : ∀ as P, sp as P → as.length = n) {vs : List V} {Q : VK} {E : XK} (h : spNOf K sp vs H Q E) : vs.length = n := by
  obtain ⟨F, as, P, e0, k, eE, av, hs, q⟩ := h
  exact av.length.trans (hl _ _ hs)
theorem fnN_body {sp : NSp} {vs : List V} {Q : VK} {E : XK} {t : TS} {N : List Str} (h : spNOf K sp vs H Q E)
    (hb : ∀ (F : Fr) (as : List SD) (P : List D → Prop), F.E = E → sp as P → WS K F t (startD N as) ⟨fun _ => False, fun _ => False, fun _ => False, fun _ => False, P⟩) : t { nx := fun _ H' => Q .non H', rt := Q } (L2.start N vs) H := by
  obtain ⟨F, as, P, e0, k, eE, av, hs, q⟩ := h
  subst e0
  refine hb F as P eE hs (gh F [] F.H0) _ [] _ _ k (AVs.start k av) (Sub.refl _) ⟨fun L σ H' δ p => p.elim, fun v H' d p => p.elim, fun L σ H' δ p => p.elim, fun L σ H' δ p => p.elim, fun L p xs H' ds pd hp hH k' dv => ?_⟩
  exact q p xs H' ds pd (k'.lf p hp) k'.ext k'.bag hH (dv.mono (gh_drop fun a ha => by rw [List.mem_singleton.mp ha]; exact hp))
theorem callN_core {sp : NSp} {as : List SD} {P : List D → Prop} {vs : List V} {Q : VK} {H1 : Hp} (k : OkH K F L H) (e1 : Ext F.b H H1) (k1 : OkH K F L H1) (av : AVs K F (gh F L H1) vs as) (p : sp as P)
    (c : ∀ p xs H' ds, P ds → H p = none → Ext F.b H H' → OkH K F (p :: L) H' → p ∉ L → H' p = some (.lst xs) → DVs K (gh F (p :: L) H') xs ds → Sub (gh F L H) (gh F (p :: L) H') → Q (.ref p) H') : spNOf K sp vs H1 Q E0 := by
  refine ⟨F.call L H1 E0 X0, as, P, rfl, k1.call0, rfl, ?_, p, fun p xs H' ds pd hp e b hH dv => ?_⟩
  · rw [gh_call]
    exact AVs.to (F := F) (F' := F.call L H1 E0 X0) rfl av
  · have k' : OkH K F L H' := k1.next e b
    have hp0 : H p = none := by
      cases q : H p with
      | none => rfl
      | some o =>
        by_cases z : F.b = some p
        · exact absurd hp (k1.bdom z)
        · rw [e1 p o z q] at hp
          cases hp
    have kp : OkH K F (p :: L) H' := ⟨k'.ext, k'.bag, k'.mdom, k'.mb, k'.mc, fun a ha => by
      rcases List.mem_cons.mp ha with rfl | ha
      · exact k1.free0 hp
      · exact k'.lf a ha, fun a ha => by
      rcases List.mem_cons.mp ha with rfl | ha
      · rw [hH]; simp
      · exact k'.ld a ha, k'.hX⟩
    refine c p xs H' ds pd hp0 (e1.trans e) kp (k1.notL hp) hH (dv.mono fun a o ha => ?_) fun a o ha => ?_
    · obtain ⟨h1, h2, h3⟩ := gh_some.mp ha
      exact gh_some.mpr ⟨fun z => h1 (.inl z), fun z => by
        rcases List.mem_cons.mp z with z | z
        · exact h2 (by rw [z]; exact List.mem_singleton.mpr rfl)
        · exact h1 (.inr z), h3⟩
    · obtain ⟨h1, h2, h3⟩ := gh_some.mp (gh_mono k (e1.trans e) a o ha)
      have hne : a ≠ p := ne_of_none (gh_sub _ _ ha) hp0
      exact gh_some.mpr ⟨h1, fun z => by
        rcases List.mem_cons.mp z with z | z
        · exact hne z
        · exact h2 z, h3⟩
theorem wn_call {sp : NSp} {ta : TA} {P : List D → Prop} (h : WA K F ta δ fun as => sp as P) : WN K F (tCall (spNOf K sp) [] E0 ta) δ P := fun L σ H k x Q c =>
  h L σ H k x _ fun vs H1 as p e1 k1 av => callN_core k e1 k1 (by rw [List.append_nil]; exact av) p c
theorem ws_retW {te : TE} (h : WN K F te δ C.ro) : WS K F (tRet te) δ C := fun G0 E L σ H k x s e =>
  h L σ H k x _ fun p xs H' ds pd hp e1 k' hn hH dv sb => e.ro (p :: L) p xs H' ds pd (List.mem_cons_self ..) hH k' dv
theorem ws_retO {i : Nat} {ds : List D} (hi : δ[i]? = some (SD.own (.lst ds))) (q : C.ro ds) : WS K F (tRet (tVar i)) δ C := fun G0 E L σ H k x s e => by
  obtain ⟨p, h1, h2, h3⟩ := x.owns i _ hi
  cases h3 with
  | lst hH hd => exact ⟨.ref p, h1, e.ro L p _ H ds q h2 hH k hd⟩
theorem spOf_len {sp : DSp} {n : Nat} (hl : ∀ as P X, sp as P X → as.length = n) {vs : List V} {Q : VK} {E : XK} (h : spOf K sp vs H Q E) : vs.length = n := by
  obtain ⟨F, as, P, e0, k, eE, av, hs, q⟩ := h
  exact av.length.trans (hl _ _ _ hs)
end
end DL

end
section
namespace DL
open PySem L2
variable {K : PySem.W.Frag} {F : Fr} {δ : List SD} {X : Cx} {P : D → Prop}

/-! ### arithmetic -/
def rAddS : R2 := fun x y H Q => ∃ i j, x = .str i ∧ y = .str j ∧ i.length + j.length ≤ sizeLine ∧ Q (.str (i ++ j)) H
def rAddA (K : PySem.W.Frag) : R2 := fun x y H Q => ((rI0 fun i j => .int (i + j)) x y H Q ∨ rAddS x y H Q) ∨ (rCat x y H Q ∨ rCatA K x y H Q)
theorem op_addA : OpR X (binaryOp .Add) (rAddA X.K) := OpR.or (OpR.or op_add op_add_str) (OpR.or op_cat op_catA)
theorem rd_add {i j : Int} (q : P (.int (i + j))) : RD K F (rAddA K) (.int i) (.int j) P := fun L H v u k a b Q c => by
  cases a; cases b
  exact .inl (.inl ⟨i, j, rfl, rfl, c _ H _ q (Ext.refl _ _) k (.int _)⟩)
theorem rd_adds {i j : Str} (h : i.length + j.length ≤ 1000000) (q : P (.str (i ++ j))) : RD K F (rAddA K) (.str i) (.str j) P := fun L H v u k a b Q c => by
  cases a; cases b
  exact .inl (.inr ⟨i, j, rfl, rfl, Nat.le_trans h (by decide), c _ H _ q (Ext.refl _ _) k (.str _)⟩)
theorem rd_cat {a b : List D} (h : a.length + b.length ≤ 100000) (q : P (.lst (a ++ b))) : RD K F (rAddA K) (.lst a) (.lst b) P := fun L H v u k x y Q c => by
  obtain ⟨p, xs, rfl, h1, h2⟩ := x.to_lst
  obtain ⟨r, ys, rfl, h3, h4⟩ := y.to_lst
  refine .inr (.inl ⟨p, r, xs, ys, rfl, rfl, gh_sub _ _ h1, gh_sub _ _ h3, Nat.le_trans (by rw [h2.length, h4.length]; exact h) (by decide), fun n hn => ?_⟩)
  exact c _ _ _ q (.of_sub (.upd hn)) (k.new hn) (.lst (gh_new k hn) ((h2.append h4).mono (gh_mono k (.of_sub (.upd hn)))))
theorem rd_catT0 {a b : List D} (h : a.length + b.length ≤ 100000) (q : P (.tup (a ++ b))) : RD K F (rAddA K) (.tup a) (.tup b) P := fun L H v u k x y Q c => by
  obtain ⟨p, xs, rfl, h1, h2⟩ := id x.to_tup
  obtain ⟨r, ys, rfl, h3, h4⟩ := id y.to_tup
  refine .inr (.inr ⟨p, r, xs, ys, rfl, rfl, gh_sub.t h1, gh_sub.t h3, Nat.le_trans (by rw [h2.length, h4.length]; exact h) (by decide), fun e => ?_, fun _ e => ?_, fun _ _ n hn => ?_⟩)
  · subst e
    have : a = [] := List.eq_nil_of_length_eq_zero h2.length.symm
    subst this
    exact c _ H _ q (Ext.refl _ _) k y
  · subst e
    have : b = [] := List.eq_nil_of_length_eq_zero h4.length.symm
    subst this
    rw [List.append_nil] at q
    exact c _ H _ q (Ext.refl _ _) k x
  · exact c _ _ _ q (.of_sub (.upd hn)) (k.new hn) (.tup (sqT (gh_new k hn)) ((h2.append h4).mono (gh_mono k (.of_sub (.upd hn)))))
theorem rd_catT {a b : List D} (ha : a ≠ []) (hb : b ≠ []) (h : a.length + b.length ≤ 100000) (q : P (.tup (a ++ b))) : RD K F (rAddA K) (.tup a) (.tup b) P := rd_catT0 h q
/-- int operations without a wish -/
theorem rd_i0 {g : Int → Int → Int} {i j : Int} (q : P (.int (g i j))) : RD K F (rI0 fun i j => .int (g i j)) (.int i) (.int j) P := fun L H v u k a b Q c => by
  cases a; cases b
  exact ⟨i, j, rfl, rfl, c _ H _ q (Ext.refl _ _) k (.int _)⟩
theorem rd_b0 {g : Int → Int → Bool} {i j : Int} (q : P (.bl (g i j))) : RD K F (rI0 fun i j => .bl (g i j)) (.int i) (.int j) P := fun L H v u k a b Q c => by
  cases a; cases b
  exact ⟨i, j, rfl, rfl, c _ H _ q (Ext.refl _ _) k (.bl _)⟩
theorem rd_iC {C : Int → Int → Prop} {g : Int → Int → Int} {i j : Int} (h : C i j) (q : P (.int (g i j))) : RD K F (rI C fun i j => .int (g i j)) (.int i) (.int j) P := fun L H v u k a b Q c => by
  cases a; cases b
  exact ⟨i, j, rfl, rfl, h, c _ H _ q (Ext.refl _ _) k (.int _)⟩
theorem ru_neg {g : Int → Int} {i : Int} (q : P (.int (g i))) : RU K F (rU fun i => .int (g i)) (.int i) P := fun L H v k a Q c => by
  cases a
  exact ⟨i, rfl, c _ H _ q (Ext.refl _ _) k (.int _)⟩
/-- * -/
def rMulA (K : PySem.W.Frag) : R2 := fun x y H Q => (rI CMul fun i j => .int (i * j)) x y H Q ∨ rRep x y H Q
theorem op_mulA : OpR X (binaryOp .Mult) (rMulA X.K) := OpR.or op_mul op_rep
theorem rd_mul {i j : Int} (h : CMul i j) (q : P (.int (i * j))) : RD K F (rMulA K) (.int i) (.int j) P := fun L H v u k a b Q c => by
  cases a; cases b
  exact .inl ⟨i, j, rfl, rfl, h, c _ H _ q (Ext.refl _ _) k (.int _)⟩
theorem DVs.flat {G : Hp} {vs : List V} {ds : List D} (h : DVs K G vs ds) : ∀ n, DVs K G (List.replicate n vs).flatten (List.replicate n ds).flatten
  | 0 => .nil
  | n + 1 => by
    rw [List.replicate_succ, List.replicate_succ, List.flatten_cons, List.flatten_cons]
    exact h.append (DVs.flat h n)
theorem rd_rep {ds : List D} {n : Int} (h0 : n ≤ 10000) (h : ds.length ≤ 1000) (q : P (.lst (List.replicate n.toNat ds).flatten)) : -(2 ^ 63) ≤ n → RD K F (rMulA K) (.lst ds) (.int n) P := fun hn L H v u k x y Q c => by
  obtain ⟨p, xs, rfl, h1, h2⟩ := x.to_lst
  cases y
  refine .inr ⟨p, n, xs, rfl, rfl, gh_sub _ _ h1, hn, by omega, ?_, fun m hm => ?_⟩
  · rw [h2.length]
    have : ds.length * n.toNat ≤ 1000 * 10000 := Nat.mul_le_mul h (by omega)
    exact Nat.le_trans this (by decide)
  · exact c _ _ _ q (.of_sub (.upd hm)) (k.new hm) (.lst (gh_new k hm) ((h2.flat _).mono (gh_mono k (.of_sub (.upd hm)))))

/-! ### what a value is, by its kind -/
def D.sc : D → Option V
  | .non => some .non
  | .bl b => some (.bl b)
  | .int i => some (.int i)
  | .str s => some (.str s)
  | _ => none
theorem DV.of_sc {G : Hp} {v u : V} {d : D} (h : DV K G v d) (e : d.sc = some u) : v = u := by
  cases h with
  | non => exact Option.some.inj e
  | bl b => exact Option.some.inj e
  | int i => exact Option.some.inj e
  | str i => exact Option.some.inj e
  | _ => cases e
mutual
def D.plain : D → Bool
  | .non => true
  | .bl _ => true
  | .int _ => true
  | .str _ => true
  | .lst l => D.plains l
  | .tup l => D.plains l
  | _ => false
def D.plains : List D → Bool
  | [] => true
  | d :: ds => d.plain && D.plains ds
end
mutual
def D.toP : D → PyData
  | .bl b => .bool b
  | .int i => .int i
  | .str s => .str s
  | .lst l => .list (D.toPs l)
  | .tup l => .tuple (D.toPs l)
  | _ => .none
def D.toPs : List D → List PyData
  | [] => []
  | d :: ds => d.toP :: D.toPs ds
end
theorem D.toPs_map : ∀ l : List D, D.toPs l = l.map D.toP
  | [] => rfl
  | d :: ds => by rw [D.toPs, D.toPs_map ds]; rfl
theorem D.plains_all : ∀ l : List D, D.plains l = l.all D.plain
  | [] => rfl
  | d :: ds => by rw [D.plains, D.plains_all ds]; rfl
mutual
theorem DV.toP {G H : Hp} (s : Sub G H) : ∀ {v : V} {d : D}, DV K G v d → d.plain = true → Dp K H v d.toP
  | _, _, .non, _ => .non
  | _, _, .bl b, _ => .bl b
  | _, _, .int b, _ => .int b
  | _, _, .str b, _ => .str b
  | _, _, .lst h r, e => .lst (sqL (s _ _ h)) (DVs.toP s r e)
  | _, _, .tup h r, e => .tup (s.t h) (DVs.toP s r e)
  | _, _, .ins _ _, e => by cases e
  | _, _, .dct _ _, e => by cases e
  | _, _, .raw _, e => by cases e
theorem DVs.toP {G H : Hp} (s : Sub G H) : ∀ {v : List V} {d : List D}, DVs K G v d → D.plains d = true → DpAll K H v (D.toPs d)
  | _, _, .nil, _ => .nil
  | _, _, .cons h r, e => by
    rw [D.plains, Bool.and_eq_true] at e
    exact .cons (DV.toP s h e.1) (DVs.toP s r e.2)
end
/-- data that == may compare -/
def D.ok (d : D) : Prop := d.plain = true ∧ SeqAt.shaped d.toP = true
def eqD (x y : D) : Bool := PyData.eqv x.toP y.toP
theorem eqD_refl {d : D} (h : d.ok) : eqD d d = true := SeqAt.eqv_refl _ (SeqAt.canLay_of_shaped h.2)
def rEqA (K : PySem.W.Frag) : R2 := fun x y H Q => rEq x y H Q ∨ rEqD K x y H Q
def rNeA (K : PySem.W.Frag) : R2 := fun x y H Q => rNe x y H Q ∨ rNeD K x y H Q
theorem op_eqA (hu : X.A.units + 64 < cLine) : OpR X (compareOp .Eq) (rEqA X.K) := OpR.or op_eq (op_eqD hu)
theorem op_neA (hu : X.A.units + 64 < cLine) : OpR X (compareOp .NotEq) (rNeA X.K) := OpR.or op_ne (op_neD hu)
theorem rd_eqI {i j : Int} (q : P (.bl (decide (i = j)))) : RD K F (rEqA K) (.int i) (.int j) P := fun L H v u k a b Q c => by
  cases a; cases b
  refine .inl ⟨rfl, c _ H _ q (Ext.refl _ _) k ?_⟩
  rw [show decide (V.int i = V.int j) = decide (i = j) by simp]
  exact .bl _
theorem rd_eqS {i j : Str} (q : P (.bl (decide (i = j)))) : RD K F (rEqA K) (.str i) (.str j) P := fun L H v u k a b Q c => by
  cases a; cases b
  refine .inl ⟨rfl, c _ H _ q (Ext.refl _ _) k ?_⟩
  rw [show decide (V.str i = V.str j) = decide (i = j) by simp]
  exact .bl _
theorem rd_eqB {i j : Bool} (q : P (.bl (decide (i = j)))) : RD K F (rEqA K) (.bl i) (.bl j) P := fun L H v u k a b Q c => by
  cases a; cases b
  refine .inl ⟨rfl, c _ H _ q (Ext.refl _ _) k ?_⟩
  rw [show decide (V.bl i = V.bl j) = decide (i = j) by simp]
  exact .bl _
theorem rd_eqV {x y : D} {u w : V} (hx : x.sc = some u) (hy : y.sc = some w) (hs : scal u w = true) (q : P (.bl (decide (u = w)))) : RD K F (rEqA K) x y P := fun L H v z k a b Q c => by
  cases a.of_sc hx
  cases b.of_sc hy
  exact .inl ⟨hs, c _ H _ q (Ext.refl _ _) k (.bl _)⟩
theorem rd_eqD {x y : D} (hx : x.ok) (hy : y.ok) (q : P (.bl (eqD x y))) : RD K F (rEqA K) x y P := fun L H v z k a b Q c =>
  .inr ⟨_, _, a.toP gh_sub hx.1, b.toP gh_sub hy.1, hx.2, hy.2, c _ H _ q (Ext.refl _ _) k (.bl _)⟩
theorem rd_neI {i j : Int} (q : P (.bl (!decide (i = j)))) : RD K F (rNeA K) (.int i) (.int j) P := fun L H v u k a b Q c => by
  cases a; cases b
  refine .inl ⟨rfl, c _ H _ q (Ext.refl _ _) k ?_⟩
  rw [show decide (V.int i = V.int j) = decide (i = j) by simp]
  exact .bl _
theorem rd_neS {i j : Str} (q : P (.bl (!decide (i = j)))) : RD K F (rNeA K) (.str i) (.str j) P := fun L H v u k a b Q c => by
  cases a; cases b
  refine .inl ⟨rfl, c _ H _ q (Ext.refl _ _) k ?_⟩
  rw [show decide (V.str i = V.str j) = decide (i = j) by simp]
  exact .bl _
theorem rd_neB {i j : Bool} (q : P (.bl (!decide (i = j)))) : RD K F (rNeA K) (.bl i) (.bl j) P := fun L H v u k a b Q c => by
  cases a; cases b
  refine .inl ⟨rfl, c _ H _ q (Ext.refl _ _) k ?_⟩
  rw [show decide (V.bl i = V.bl j) = decide (i = j) by simp]
  exact .bl _
theorem rd_neD {x y : D} (hx : x.ok) (hy : y.ok) (q : P (.bl (!eqD x y))) : RD K F (rNeA K) x y P := fun L H v z k a b Q c =>
  .inr ⟨_, _, a.toP gh_sub hx.1, b.toP gh_sub hy.1, hx.2, hy.2, c _ H _ q (Ext.refl _ _) k (.bl _)⟩
/-- is None -/
def D.isN : D → Bool
  | .non => true
  | _ => false
def rIsNo : R2 := fun x y H Q => y = .non ∧ Q (.bl (decide (x = .non))) H
def rNotNo : R2 := fun x y H Q => y = .non ∧ Q (.bl (!decide (x = .non))) H
theorem op_isNo : OpR X (compareOp .Is) rIsNo := op_isN
theorem op_notNo : OpR X (compareOp .IsNot) rNotNo := op_notN
theorem DV.isN {G : Hp} {v : V} {d : D} (h : DV K G v d) (hr : ∀ u, d ≠ .raw u) : decide (v = .non) = d.isN := by
  cases h with
  | raw => exact absurd rfl (hr _)
  | _ => rfl
theorem rd_isN {x : D} (hr : ∀ u, x ≠ .raw u) (q : P (.bl x.isN)) : RD K F rIsNo x .non P := fun L H v z k a b Q c => by
  cases b
  refine ⟨rfl, c _ H _ q (Ext.refl _ _) k ?_⟩
  rw [a.isN hr]
  exact .bl _
theorem rd_notN {x : D} (hr : ∀ u, x ≠ .raw u) (q : P (.bl (!x.isN))) : RD K F rNotNo x .non P := fun L H v z k a b Q c => by
  cases b
  refine ⟨rfl, c _ H _ q (Ext.refl _ _) k ?_⟩
  rw [a.isN hr]
  exact .bl _

/-! ### subscripts -/
theorem DVs.atI {G : Hp} {vs : List V} {ds : List D} {i : Int} {d : D} (h : DVs K G vs ds) (e : L2.atI ds i = some d) : ∃ v, L2.atI vs i = some v ∧ DV K G v d := by
  unfold L2.atI at e ⊢
  rw [h.length]
  cases q : ixN ds.length i with
  | none =>
    rw [q] at e
    cases e
  | some j =>
    rw [q] at e
    exact h.get e
theorem rd_ixL {ds : List D} {i : Int} {d : D} (e : L2.atI ds i = some d) (q : P d) : RD K F (rIx K) (.lst ds) (.int i) P := fun L H v z k a b Q c => by
  cases b
  obtain ⟨p, xs, rfl, h1, h2⟩ := a.to_lst
  obtain ⟨v, g1, g2⟩ := h2.atI e
  exact .inl ⟨p, xs, i, v, rfl, rfl, sqL (gh_sub _ _ h1), g1, c _ H _ q (Ext.refl _ _) k g2⟩
theorem rd_ixT {ds : List D} {i : Int} {d : D} (e : L2.atI ds i = some d) (q : P d) : RD K F (rIx K) (.tup ds) (.int i) P := fun L H v z k a b Q c => by
  cases b
  obtain ⟨p, xs, rfl, h1, h2⟩ := a.to_tup
  obtain ⟨v, g1, g2⟩ := h2.atI e
  exact .inr (.inl ⟨p, xs, i, v, rfl, rfl, gh_sub.t h1, g1, c _ H _ q (Ext.refl _ _) k g2⟩)
theorem rd_ixS {z : Str} {i : Int} {ch : Nat} (hl : z.length ≤ 100000) (e : L2.atI z.cps.toList i = some ch) (q : P (.str ⟨#[ch]⟩)) : RD K F (rIx K) (.str z) (.int i) P := fun L H v u k a b Q c => by
  cases a; cases b
  exact .inr (.inr ⟨z, i, ch, rfl, rfl, Nat.le_trans hl (by decide), e, c _ H _ q (Ext.refl _ _) k (.str _)⟩)
theorem atI_of {α : Type} {xs : List α} {i : Int} (h0 : 0 ≤ i) (h1 : i < xs.length) : L2.atI xs i = some (xs[i.toNat]'(by omega)) := by
  unfold L2.atI ixN
  rw [if_pos h0, if_pos h1]
  show xs[i.toNat]? = _
  exact List.getElem?_eq_getElem (by omega)
theorem atI_get {α : Type} {xs : List α} {n : Nat} {x : α} (h : xs[n]? = some x) : L2.atI xs (n : Int) = some x := atI_nat h
theorem rd_ixLk {ds : List D} {i : Int} (h0 : 0 ≤ i) (h1 : i < ds.length) (q : ∀ d, ds[i.toNat]? = some d → P d) : RD K F (rIx K) (.lst ds) (.int i) P :=
  rd_ixL (atI_of h0 h1) (q _ (List.getElem?_eq_getElem (by omega)))
theorem rd_ixTk {ds : List D} {i : Int} (h0 : 0 ≤ i) (h1 : i < ds.length) (q : ∀ d, ds[i.toNat]? = some d → P d) : RD K F (rIx K) (.tup ds) (.int i) P :=
  rd_ixT (atI_of h0 h1) (q _ (List.getElem?_eq_getElem (by omega)))

/-! ### slices -/
def WO (K : PySem.W.Frag) (F : Fr) (to : TO) (δ : List SD) (P : Option Int → Prop) : Prop := ∀ (L : List Addr) (σ : L2.St) (H : Hp), OkH K F L H → EnvOk K F L H σ δ → ∀ Q : Option Int → Hp → Prop,
  (∀ o H', P o → Ext F.b H H' → OkH K F L H' → Q o H') → to σ H Q
theorem wo_no {P : Option Int → Prop} (q : P none) : WO K F tNoPart δ P := fun L σ H k x Q c => c none H q (Ext.refl _ _) k
theorem wo_part {te : TE} {P : Option Int → Prop} (h : WE K F te δ fun d => ∃ i, d = .int i ∧ P (some i)) : WO K F (tPart te) δ P := fun L σ H k x Q c =>
  h L σ H k x _ fun v H1 d p e1 k1 dv => by
    obtain ⟨i, rfl, p⟩ := p
    cases dv
    exact ⟨i, rfl, c (some i) H1 p e1 k1⟩
def RS (K : PySem.W.Frag) (F : Fr) (r : V → Option Int → Option Int → Hp → VK → Prop) (x : D) (lo hi : Option Int) (P : D → Prop) : Prop := ∀ (L : List Addr) (H : Hp) (v : V), OkH K F L H → DV K (gh F L H) v x → ∀ Q : VK,
  (∀ z H' d, P d → Ext F.b H H' → OkH K F L H' → DV K (gh F L H') z d → Q z H') → r v lo hi H Q
theorem we_sl {r : V → Option Int → Option Int → Hp → VK → Prop} {te : TE} {tl th : TO} (h : WE K F te δ fun d => WO K F tl δ fun lo => WO K F th δ fun hi => RS K F r d lo hi P) : WE K F (tSl r te tl th) δ P := fun L σ H k x Q c =>
  h L σ H k x _ fun v H1 d p e1 k1 dv => p L σ H1 k1 (x.next k e1) _ fun lo H2 p2 e2 k2 => p2 L σ H2 k2 (x.next k (e1.trans e2)) _ fun hi H3 p3 e3 k3 =>
    p3 L H3 v k3 (dv.mono (gh_mono k1 (e2.trans e3))) Q fun z H4 f p4 e4 k4 dz => c z H4 f p4 (((e1.trans e2).trans e3).trans e4) k4 dz
def cutD (xs : List D) (lo hi : Option Int) : List D := (xs.drop (HT.sIx xs.length 0 lo)).take (HT.sIx xs.length xs.length hi - HT.sIx xs.length 0 lo)
theorem DVs.cut {G : Hp} {vs : List V} {ds : List D} (h : DVs K G vs ds) (lo hi : Option Int) : DVs K G (cutV vs lo hi) (cutD ds lo hi) := by
  unfold cutV cutD
  rw [h.length]
  exact (h.drop _).take _
/-- the whole of a tuple is the tuple itself -/
def rSlTW (K : PySem.W.Frag) : V → Option Int → Option Int → Hp → VK → Prop := fun x lo hi H Q => ∃ a xs, x = .ref a ∧ SqT K H a xs ∧ HT.sIx xs.length 0 lo = 0 ∧ HT.sIx xs.length xs.length hi = xs.length ∧ Q x H
def rSlA (K : PySem.W.Frag) : V → Option Int → Option Int → Hp → VK → Prop := fun x lo hi H Q => rSlL K x lo hi H Q ∨ (L2.rSlA K x lo hi H Q ∨ rSlS x lo hi H Q)
theorem sl_A : SlR X (rSlA X.K) := SlR.or sl_list (SlR.or sl_tupA sl_str)
theorem rs_L {ds : List D} {lo hi : Option Int} (q : P (.lst (cutD ds lo hi))) : RS K F (rSlA K) (.lst ds) lo hi P := fun L H v k a Q c => by
  obtain ⟨p, xs, rfl, h1, h2⟩ := a.to_lst
  exact .inl ⟨p, xs, rfl, sqL (gh_sub _ _ h1), fun n hn => c _ _ _ q (.of_sub (.upd hn)) (k.new hn) (.lst (gh_new k hn) ((h2.cut lo hi).mono (gh_mono k (.of_sub (.upd hn)))))⟩
theorem rs_T0 {ds : List D} {lo hi : Option Int} (q : P (.tup (cutD ds lo hi))) : RS K F (rSlA K) (.tup ds) lo hi P := fun L H v k a Q c => by
  obtain ⟨p, xs, rfl, h1, h2⟩ := id a.to_tup
  refine .inr (.inl ⟨p, xs, rfl, gh_sub.t h1, fun hw => ?_, fun _ n hn => c _ _ _ q (.of_sub (.upd hn)) (k.new hn) (.tup (sqT (gh_new k hn)) ((h2.cut lo hi).mono (gh_mono k (.of_sub (.upd hn)))))⟩)
  rw [h2.length] at hw
  have e : cutD ds lo hi = ds := by
    unfold cutD
    rw [hw.1, hw.2, List.drop_zero, Nat.sub_zero, List.take_length]
  rw [e] at q
  exact c _ H _ q (Ext.refl _ _) k a
theorem rs_T {ds : List D} {lo hi : Option Int} (hw : ¬ (HT.sIx ds.length 0 lo = 0 ∧ HT.sIx ds.length ds.length hi = ds.length)) (q : P (.tup (cutD ds lo hi))) : RS K F (rSlA K) (.tup ds) lo hi P := rs_T0 q
theorem rs_S {z : Str} {lo hi : Option Int} (hl : z.length ≤ 100000) (q : P (.str (cutS z lo hi))) : RS K F (rSlA K) (.str z) lo hi P := fun L H v k a Q c => by
  cases a
  exact .inr (.inr ⟨z, rfl, Nat.le_trans hl (by decide), c _ H _ q (Ext.refl _ _) k (.str _)⟩)

/-! ### built-ins -/
def rLenA (K : PySem.W.Frag) : List V → Hp → VK → Prop := fun xs H Q => ∃ x n, xs = [x] ∧ LenV K x H n ∧ Q (.int n) H
theorem call_lenA : CallR X (.builtin "len") (rLenA X.K) := call_len
theorem rc_lenL {ds : List D} (q : P (.int ds.length)) : RC K F (rLenA K) [.val (.lst ds)] P := fun L H vs k a Q c => by
  cases a with
  | cons a r =>
    cases r
    obtain ⟨p, xs, rfl, h1, h2⟩ := DV.to_lst a
    refine ⟨_, xs.length, rfl, .inl ⟨xs, sqL (gh_sub _ _ h1), rfl⟩, c _ H _ q (Ext.refl _ _) k ?_⟩
    rw [h2.length]
    exact .int _
theorem rc_lenT {ds : List D} (q : P (.int ds.length)) : RC K F (rLenA K) [.val (.tup ds)] P := fun L H vs k a Q c => by
  cases a with
  | cons a r =>
    cases r
    obtain ⟨p, xs, rfl, h1, h2⟩ := DV.to_tup a
    refine ⟨_, xs.length, rfl, .inr ⟨xs, gh_sub.t h1, rfl⟩, c _ H _ q (Ext.refl _ _) k ?_⟩
    rw [h2.length]
    exact .int _
theorem rc_lenS {z : Str} (hl : z.length ≤ 100000) (q : P (.int z.length)) : RC K F (rLenA K) [.val (.str z)] P := fun L H vs k a Q c => by
  cases a with
  | cons a r =>
    cases r
    cases DV.to_str a
    exact ⟨_, z.length, rfl, ⟨Nat.le_trans hl (by decide), rfl⟩, c _ H _ q (Ext.refl _ _) k (.int _)⟩
def rInt1 : List V → Hp → VK → Prop := fun xs H Q => (∃ i, xs = [.int i] ∧ Q (.int i) H) ∨ ∃ k, xs = [.bl k] ∧ Q (.int (if k then 1 else 0)) H
theorem call_intA : CallR X (.type "int") rInt1 := call_int1
theorem rc_int {i : Int} (q : P (.int i)) : RC K F rInt1 [.val (.int i)] P := fun L H vs k a Q c => by
  cases a with
  | cons a r =>
    cases r
    cases DV.to_int a
    exact .inl ⟨i, rfl, c _ H _ q (Ext.refl _ _) k (.int _)⟩
theorem rc_intB {i : Bool} (q : P (.int (if i then 1 else 0))) : RC K F rInt1 [.val (.bl i)] P := fun L H vs k a Q c => by
  cases a with
  | cons a r =>
    cases r
    cases DV.to_bl a
    exact .inr ⟨i, rfl, c _ H _ q (Ext.refl _ _) k (.int _)⟩
theorem rc_all {bs : List Bool} (q : P (.bl (bs.all id))) : RC K F (rAll K) [.val (.lst (bs.map D.bl))] P := fun L H vs k a Q c => by
  cases a with
  | cons a r =>
    cases r
    obtain ⟨p, xs, rfl, h1, h2⟩ := DV.to_lst a
    cases h2.bls
    exact ⟨p, bs, rfl, sqL (gh_sub _ _ h1), c _ H _ q (Ext.refl _ _) k (.bl _)⟩
theorem rc_any {bs : List Bool} (q : P (.bl (bs.any id))) : RC K F (rAny K) [.val (.lst (bs.map D.bl))] P := fun L H vs k a Q c => by
  cases a with
  | cons a r =>
    cases r
    obtain ⟨p, xs, rfl, h1, h2⟩ := DV.to_lst a
    cases h2.bls
    exact ⟨p, bs, rfl, sqL (gh_sub _ _ h1), c _ H _ q (Ext.refl _ _) k (.bl _)⟩
def rMax2 : List V → Hp → VK → Prop := fun xs H Q => ∃ i j, xs = [.int i, .int j] ∧ Q (.int (if j > i then j else i)) H
def rMaxA (K : PySem.W.Frag) : List V → Hp → VK → Prop := fun xs H Q => rMax K xs H Q ∨ rMax2 xs H Q
theorem call_maxA (hc : X.calm = true) : CallR X (.builtin "max") (rMaxA X.K) := CallR.or (cr_max hc) (call_max2 hc)
theorem rc_max {ns : List Int} (h : ns ≠ []) (q : ∀ m, m ∈ ns → (∀ y, y ∈ ns → y ≤ m) → P (.int m)) : RC K F (rMaxA K) [.val (.lst (ns.map D.int))] P := fun L H vs k a Q c => by
  cases a with
  | cons a r =>
    cases r
    obtain ⟨p, xs, rfl, h1, h2⟩ := DV.to_lst a
    cases h2.ints
    exact .inl ⟨p, ns, rfl, sqL (gh_sub _ _ h1), List.length_pos_iff.mpr h, fun m hm hy => c _ H _ (q m hm hy) (Ext.refl _ _) k (.int _)⟩
theorem rc_max2 {i j : Int} (q : P (.int (max i j))) : RC K F (rMaxA K) [.val (.int i), .val (.int j)] P := fun L H vs k a Q c => by
  cases a with
  | cons a r =>
    cases r with
    | cons b r =>
      cases r
      cases DV.to_int a
      cases DV.to_int b
      refine .inr ⟨i, j, rfl, c _ H _ q (Ext.refl _ _) k ?_⟩
      rw [show (if j > i then j else i) = max i j by split <;> omega]
      exact .int _
def rListA (K : PySem.W.Frag) : List V → Hp → VK → Prop := fun xs H Q => ∃ p ys, xs = [.ref p] ∧ (SqL K H p ys ∨ SqT K H p ys) ∧ ∀ l, H l = none → Q (.ref l) (upd H l (.lst ys))
theorem call_listA : CallR X (.type "list") (rListA X.K) := call_list_of
theorem rc_listL {ds : List D} (q : P (.lst ds)) : RC K F (rListA K) [.val (.lst ds)] P := fun L H vs k a Q c => by
  cases a with
  | cons a r =>
    cases r
    obtain ⟨p, xs, rfl, h1, h2⟩ := DV.to_lst a
    exact ⟨p, xs, rfl, .inl (sqL (gh_sub _ _ h1)), fun n hn => c _ _ _ q (.of_sub (.upd hn)) (k.new hn) (.lst (gh_new k hn) (h2.mono (gh_mono k (.of_sub (.upd hn)))))⟩
theorem rc_listT {ds : List D} (q : P (.lst ds)) : RC K F (rListA K) [.val (.tup ds)] P := fun L H vs k a Q c => by
  cases a with
  | cons a r =>
    cases r
    obtain ⟨p, xs, rfl, h1, h2⟩ := DV.to_tup a
    exact ⟨p, xs, rfl, .inr (gh_sub.t h1), fun n hn => c _ _ _ q (.of_sub (.upd hn)) (k.new hn) (.lst (gh_new k hn) (h2.mono (gh_mono k (.of_sub (.upd hn)))))⟩
def rTupA (K : PySem.W.Frag) : List V → Hp → VK → Prop := fun xs H Q => ∃ p ys, xs = [.ref p] ∧ ((SqL K H p ys ∧ ∀ l, H l = none → Q (.ref l) (upd H l (.tup ys))) ∨ (SqT K H p ys ∧ Q (.ref p) H))
theorem call_tupA : CallR X (.type "tuple") (rTupA X.K) := call_tuple_of
theorem rc_tupL {ds : List D} (q : P (.tup ds)) : RC K F (rTupA K) [.val (.lst ds)] P := fun L H vs k a Q c => by
  cases a with
  | cons a r =>
    cases r
    obtain ⟨p, xs, rfl, h1, h2⟩ := DV.to_lst a
    exact ⟨p, xs, rfl, .inl ⟨sqL (gh_sub _ _ h1), fun n hn => c _ _ _ q (.of_sub (.upd hn)) (k.new hn) (.tup (sqT (gh_new k hn)) (h2.mono (gh_mono k (.of_sub (.upd hn)))))⟩⟩
theorem rc_tupT {ds : List D} (q : P (.tup ds)) : RC K F (rTupA K) [.val (.tup ds)] P := fun L H vs k a Q c => by
  cases a with
  | cons a r =>
    cases r
    obtain ⟨p, xs, rfl, h1, h2⟩ := DV.to_tup a
    exact ⟨p, xs, rfl, .inr ⟨gh_sub.t h1, c _ H _ q (Ext.refl _ _) k (.tup h1 h2)⟩⟩
def rStrA : List V → Hp → VK → Prop := fun xs H Q => (∃ i, xs = [.int i] ∧ i.natAbs.log2 < 1920 ∧ Q (.str (toString i)) H) ∨ ∃ a, xs = [.str a] ∧ Q (.str a) H
theorem call_strA : CallR X (.type "str") rStrA := CallR.or call_str_int SkE.call_str_str
theorem rc_str {i : Int} (h : i.natAbs < 2 ^ 60) (q : P (.str (toString i))) : RC K F rStrA [.val (.int i)] P := fun L H vs k a Q c => by
  cases a with
  | cons a r =>
    cases r
    cases DV.to_int a
    refine .inl ⟨i, rfl, ?_, c _ H _ q (Ext.refl _ _) k (.str _)⟩
    exact Nat.lt_of_lt_of_le (PySem.Flt.log2_lt_of (by decide) h) (by decide)
theorem rc_strS {i : Str} (q : P (.str i)) : RC K F rStrA [.val (.str i)] P := fun L H vs k a Q c => by
  cases a with
  | cons a r =>
    cases r
    cases DV.to_str a
    exact .inr ⟨i, rfl, c _ H _ q (Ext.refl _ _) k (.str _)⟩

/-! ### isinstance -/
inductive Tg where
  | non | bl | int | str | lst | tup | dct
def Tg.name : Tg → String
  | .non => "NoneType" | .bl => "bool" | .int => "int" | .str => "str" | .lst => "list" | .tup => "tuple" | .dct => "dict"
def D.tg : D → Option Tg
  | .non => some .non | .bl _ => some .bl | .int _ => some .int | .str _ => some .str | .lst _ => some .lst | .tup _ => some .tup | .dct _ => some .dct
  | _ => none
def isI : Tg → Tg → Bool
  | .non, .non => true | .bl, .bl => true | .int, .int => true | .str, .str => true | .lst, .lst => true | .tup, .tup => true | .dct, .dct => true
  | .bl, .int => true
  | _, _ => false
theorem kit_isI (a b : Tg) (hb : b.name ≠ "NoneType") : kitB a.name b.name = some (isI a b) := by
  cases a <;> cases b <;> first | exact absurd rfl hb | decide +kernel
theorem DV.tyX {G H : Hp} (s : Sub G H) {v : V} {d : D} {t : Tg} (h : DV K G v d) (e : d.tg = some t) : TyX K H v (.type t.name) := by
  cases h with
  | non => cases e; exact .base .non
  | bl b => cases e; exact .base (.bl b)
  | int b => cases e; exact .base (.int b)
  | str b => cases e; exact .base (.str b)
  | lst h r => cases e; exact .base (.lst (s _ _ h))
  | tup h r =>
    cases e
    rcases s.t h with (h | ⟨o, h⟩) | ⟨o, its, n, h1, h2, _⟩
    · exact .base (.tup h)
    · exact .fTuple h
    · exact .kTuple h1 h2
  | dct h r => cases e; exact .base (.dK (s _ _ h))
  | ins h r => cases e
  | raw v => cases e
def rIsiA (K : PySem.W.Frag) : List V → Hp → VK → Prop := fun xs H Q => rIsi K xs H Q ∨ rIsiT K xs H Q
theorem call_isiA : CallR X (.builtin "isinstance") (rIsiA X.K) := CallR.or call_isi call_isiT
theorem rc_isi {x : D} {t u : Tg} {n : String} (hn : u.name = n) (e : x.tg = some t) (hu : n ≠ "NoneType") (q : P (.bl (isI t u))) : RC K F (rIsiA K) [.val x, .val (.raw (.ty n))] P := fun L H vs k a Q c => by
  subst hn
  cases a with
  | cons a r =>
    cases r with
    | cons b r =>
      cases r
      cases DV.to_raw b
      exact .inl ⟨_, _, _, _, isI t u, rfl, .ty _, DV.tyX gh_sub a e, kit_ty (kit_isI t u hu), c _ H _ q (Ext.refl _ _) k (.bl _)⟩
/-- isinstance(x, (S, T)) -/
theorem we_isi2 {te : TE} {u w : Tg} {m n : String} (hm : u.name = m) (hn : w.name = n) (hu : m ≠ "NoneType") (hw : n ≠ "NoneType") (h : WE K F te δ fun x => ∃ t, x.tg = some t ∧ P (.bl (isI t u || isI t w))) :
    WE K F (tCB (rIsiA K) (tCons te (tCons (tTup (tCons (tC (.ty m)) (tCons (tC (.ty n)) tNil))) tNil))) δ P := fun L σ H k x Q c => by
  subst hm hn
  refine h L σ H k x _ fun v H1 d p e1 k1 dv => ?_
  obtain ⟨t, et, p⟩ := p
  refine ⟨by show 2 ≤ sizeLine; decide, fun a ha => ?_⟩
  refine .inr ⟨v, a, [.ty u.name, .ty w.name], .type t.name, [.type u.name, .type w.name], isI t u || isI t w, rfl, upd_same, .cons (.ty _) (.cons (.ty _) .nil), (dv.mono (gh_mono k1 (.of_sub (.upd ha)))).tyX gh_sub et, ?_, ?_⟩
  · refine kitAny_cons (kit_ty (kit_isI t u hu)) (fun h1 => ?_) fun h1 => by rw [h1]; rfl
    refine kitAny_cons (kit_ty (kit_isI t w hw)) (fun h2 => ?_) fun h2 => by rw [h2, Bool.or_true]
    rw [h1, h2]
    exact kitAny_nil
  · exact c _ _ _ p (e1.trans (.of_sub (.upd ha))) (k1.new ha) (.bl _)
/-! ### a star among the arguments -/
theorem wa_star {te : TE} {tr : TA} {P : List SD → Prop} (h : WE K F te δ fun d => ∃ ds, (d = .tup ds ∨ d = .lst ds) ∧ WA K F tr δ fun as => P (ds.map SD.val ++ as)) : WA K F (StX.tStar K te tr) δ P := fun L σ H k x Q c =>
  h L σ H k x _ fun v H1 d p e1 k1 dv => by
    obtain ⟨ds, hd, p⟩ := p
    rcases hd with rfl | rfl
    · obtain ⟨a, xs, rfl, h1, h2⟩ := dv.to_tup
      exact ⟨a, xs, rfl, .inl (gh_sub.t h1), p L σ H1 k1 (x.next k e1) _ fun ys H2 as p2 e2 k2 av => c _ H2 _ p2 (e1.trans e2) k2 ((AVs.of (F := F) (h2.mono (gh_mono k1 e2))).app av)⟩
    · obtain ⟨a, xs, rfl, h1, h2⟩ := dv.to_lst
      exact ⟨a, xs, rfl, .inr (sqL (gh_sub _ _ h1)), p L σ H1 k1 (x.next k e1) _ fun ys H2 as p2 e2 k2 av => c _ H2 _ p2 (e1.trans e2) k2 ((AVs.of (F := F) (h2.mono (gh_mono k1 e2))).app av)⟩
/-! ### zip, in -/
theorem wi_zip {ta : TA} {P : List D → Prop} (h : WA K F ta δ fun as => ∃ a b : List D, (as = [.val (.lst a), .val (.lst b)] ∨ as = [.val (.tup a), .val (.tup b)]) ∧ P (List.zipWith (fun x y => D.tup [x, y]) a b)) : WI K F (RZ.iZipA K ta) δ P := fun L σ H k x R r =>
  h L σ H k x _ fun vs H1 as p e1 k1 av => by
    obtain ⟨a, b, hd, p⟩ := p
    rcases hd with rfl | rfl
    · cases av with
      | cons u t =>
        cases t with
        | cons w t =>
          cases t
          obtain ⟨p1, xs, rfl, h1, h2⟩ := DV.to_lst u
          obtain ⟨p2, ys, rfl, h3, h4⟩ := DV.to_lst w
          refine ⟨p1, p2, xs, ys, rfl, .inl ⟨sqL (gh_sub _ _ h1), sqL (gh_sub _ _ h3), r _ H1 _ p e1 k1 fun L' H' k' s' i => ⟨fun hi => ?_, fun d hd => ?_⟩⟩⟩
          · refine ⟨xs, ys, sqL (gh_sub _ _ (s' _ _ h1)), sqL (gh_sub _ _ (s' _ _ h3)), ?_⟩
            rw [List.length_zipWith] at hi
            rw [h2.length, h4.length]
            omega
          · rw [List.getElem?_zipWith] at hd
            cases q1 : a[i]? with
            | none => rw [q1] at hd; cases hd
            | some da =>
              cases q2 : b[i]? with
              | none => rw [q1, q2] at hd; cases hd
              | some db =>
                rw [q1, q2] at hd
                cases hd
                obtain ⟨va, g1, g2⟩ := h2.get q1
                obtain ⟨vb, g3, g4⟩ := h4.get q2
                refine ⟨⟨xs, ys, va, vb, sqL (gh_sub _ _ (s' _ _ h1)), sqL (gh_sub _ _ (s' _ _ h3)), g1, g3⟩, fun z H3 hy => ?_⟩
                obtain ⟨T, x', y', rfl, hT, rfl, f1, f2⟩ := hy
                have e1' := f1 xs (sqL (gh_sub _ _ (s' _ _ h1)))
                have e2' := f2 ys (sqL (gh_sub _ _ (s' _ _ h3)))
                rw [g1] at e1'
                rw [g3] at e2'
                cases e1'
                cases e2'
                have sb := s'.trans (gh_mono k' (.of_sub (.upd (o := .tup [va, vb]) hT)))
                exact ⟨.of_sub (.upd hT), k'.new hT, .tup (sqT (gh_new k' hT)) (.cons (g2.mono sb) (.cons (g4.mono sb) .nil))⟩
    · cases av with
      | cons u t =>
        cases t with
        | cons w t =>
          cases t
          obtain ⟨p1, xs, rfl, h1, h2⟩ := DV.to_tup u
          obtain ⟨p2, ys, rfl, h3, h4⟩ := DV.to_tup w
          refine ⟨p1, p2, xs, ys, rfl, .inr ⟨gh_sub.t h1, gh_sub.t h3, r _ H1 _ p e1 k1 fun L' H' k' s' i => ⟨fun hi => ?_, fun d hd => ?_⟩⟩⟩
          · refine ⟨xs, ys, gh_sub.t (s'.t h1), gh_sub.t (s'.t h3), ?_⟩
            rw [List.length_zipWith] at hi
            rw [h2.length, h4.length]
            omega
          · rw [List.getElem?_zipWith] at hd
            cases q1 : a[i]? with
            | none => rw [q1] at hd; cases hd
            | some da =>
              cases q2 : b[i]? with
              | none => rw [q1, q2] at hd; cases hd
              | some db =>
                rw [q1, q2] at hd
                cases hd
                obtain ⟨va, g1, g2⟩ := h2.get q1
                obtain ⟨vb, g3, g4⟩ := h4.get q2
                refine ⟨⟨xs, ys, va, vb, gh_sub.t (s'.t h1), gh_sub.t (s'.t h3), g1, g3⟩, fun z H3 hy => ?_⟩
                obtain ⟨T, x', y', rfl, hT, rfl, f1, f2⟩ := hy
                have e1' := f1 xs (gh_sub.t (s'.t h1))
                have e2' := f2 ys (gh_sub.t (s'.t h3))
                rw [g1] at e1'
                rw [g3] at e2'
                cases e1'
                cases e2'
                have sb := s'.trans (gh_mono k' (.of_sub (.upd (o := .tup [va, vb]) hT)))
                exact ⟨.of_sub (.upd hT), k'.new hT, .tup (sqT (gh_new k' hT)) (.cons (g2.mono sb) (.cons (g4.mono sb) .nil))⟩
/-! ### in -/
def rInA (K : PySem.W.Frag) : R2 := fun x y H Q => rIn K false x y H Q ∨ rInD K x y H Q
def rNinA (K : PySem.W.Frag) : R2 := fun x y H Q => rIn K true x y H Q ∨ rNotInD K x y H Q
theorem op_inA (hu : X.A.units + 65 < cLine) : OpR X (compareOp .In) (rInA X.K) := OpR.or op_in_seq (op_inD hu)
theorem op_ninA (hu : X.A.units + 65 < cLine) : OpR X (compareOp .NotIn) (rNinA X.K) := OpR.or op_notIn_seq (op_notInD hu)
def rInStr : R2 := fun x y H Q => ∃ i j, x = .str i ∧ y = .str j ∧ Q (.bl (!(Builtin.Str.occurrences j i 0 j.length 1).isEmpty)) H
def rNinStr : R2 := fun x y H Q => ∃ i j, x = .str i ∧ y = .str j ∧ Q (.bl (!(!(Builtin.Str.occurrences j i 0 j.length 1).isEmpty))) H
def rInX (K : PySem.W.Frag) : R2 := fun x y H Q => rInA K x y H Q ∨ rInStr x y H Q
def rNinX (K : PySem.W.Frag) : R2 := fun x y H Q => rNinA K x y H Q ∨ rNinStr x y H Q
theorem op_inX (hu : X.A.units + 65 < cLine) : OpR X (compareOp .In) (rInX X.K) := OpR.or (op_inA hu) op_in_str
theorem op_ninX (hu : X.A.units + 65 < cLine) : OpR X (compareOp .NotIn) (rNinX X.K) := OpR.or (op_ninA hu) op_notIn_str
theorem rd_inX {x y : D} {P : D → Prop} (h : RD K F (rInA K) x y P) : RD K F (rInX K) x y P := fun L H v u k a b Q c => .inl (h L H v u k a b Q c)
theorem rd_ninX {x y : D} {P : D → Prop} (h : RD K F (rNinA K) x y P) : RD K F (rNinX K) x y P := fun L H v u k a b Q c => .inl (h L H v u k a b Q c)
theorem rd_inCh {c : Nat} {s : Str} {P : D → Prop} (q : P (.bl (decide (c ∈ s.cps.toList)))) : RD K F (rInX K) (.str ⟨#[c]⟩) (.str s) P := fun L H v u k a b Q cc => by
  cases a; cases b
  refine .inr ⟨_, _, rfl, rfl, ?_⟩
  rw [PySem.StrLaws.found_one]
  exact cc _ H _ q (Ext.refl _ _) k (.bl _)
theorem rd_inD {x : D} {ds : List D} (hx : x.ok) (hy : (D.lst ds).ok) (q : P (.bl (ds.any fun z => eqD z x))) : RD K F (rInA K) x (.lst ds) P := fun L H v z k a b Q c => by
  refine .inr ⟨_, D.toPs ds, a.toP gh_sub hx.1, b.toP gh_sub hy.1, hx.2, hy.2, c _ H _ q (Ext.refl _ _) k ?_⟩
  rw [D.toPs_map, List.any_map]
  exact .bl _
theorem rd_ninD {x : D} {ds : List D} (hx : x.ok) (hy : (D.lst ds).ok) (q : P (.bl (!ds.any fun z => eqD z x))) : RD K F (rNinA K) x (.lst ds) P := fun L H v z k a b Q c => by
  refine .inr ⟨_, D.toPs ds, a.toP gh_sub hx.1, b.toP gh_sub hy.1, hx.2, hy.2, c _ H _ q (Ext.refl _ _) k ?_⟩
  rw [D.toPs_map, List.any_map]
  exact .bl _
end DL

end
section
namespace DL
open PySem L2
variable {K : PySem.W.Frag} {F : Fr} {δ : List SD} {X : Cx}

theorem wgs_nm {i : Nat} {u : TGs} {us : List Nat} {d : D} {ds : List D} {P : List SD → Prop} (h : WGs K F u us ds (δ.set i (.val d)) P) : WGs K F (gCons (gName i) u) (i :: us) (d :: ds) δ P := wgs_cons (ts := [i]) (wg_name h)
/-- [f(x) for x in xs], nothing drawn -/
theorem wn_map {wi : TI} {g : TG} {te : TE} {vs : List Nat} {P : List D → Prop} (ts : List Nat) (ht : ∀ t ∈ ts, t ∈ vs)
    (h : WI K F wi δ fun ds => ∃ (α : Type) (xs : List α) (enc f : α → D), ds = xs.map enc ∧ xs.length ≤ 100000 ∧ (∀ x ∈ xs, WG K F g ts (enc x) (wipeD δ vs) fun δ2 => WE K F te δ2 fun y => y = f x) ∧ P (xs.map f)) : WN K F (tLc wi g tYes te vs) δ P :=
  wn_lc ht (h.imp fun ds ⟨α, xs, enc, f, e, hl, hb, p⟩ => by
    subst e
    refine ⟨fun i acc => acc = (xs.take i).map f, rfl, by rw [List.length_map]; exact hl, fun i d acc hd ha => ?_, fun acc ha => ?_⟩
    · rw [List.getElem?_map] at hd
      cases q : xs[i]? with
      | none => rw [q] at hd; cases hd
      | some x =>
        rw [q] at hd
        cases hd
        have hx := List.mem_of_getElem? q
        have hw := hb x hx
        intro L σ H v k xx dv Q c
        refine hw L σ H v k xx dv Q fun σ' H' δ' p e1 k1 x1 l1 f1 => c σ' H' δ' (wt_yes ⟨fun _ => p.imp fun y hy => ?_, fun z => by cases z⟩) e1 k1 x1 l1 f1
        subst hy ha
        rw [List.take_add_one, q, List.map_append]
        rfl
    · rw [List.length_map, List.take_length] at ha
      rw [ha]
      exact p)
/-- [f(x) for x in xs if c(x)], nothing drawn -/
theorem wn_filter {wi : TI} {g : TG} {tt : TT} {te : TE} {vs : List Nat} {P : List D → Prop} (ts : List Nat) (ht : ∀ t ∈ ts, t ∈ vs)
    (h : WI K F wi δ fun ds => ∃ (α : Type) (xs : List α) (enc f : α → D) (c : α → Bool), ds = xs.map enc ∧ xs.length ≤ 100000 ∧
      (∀ x ∈ xs, WG K F g ts (enc x) (wipeD δ vs) fun δ2 => WT K F tt δ2 fun b => b = c x ∧ (c x = true → WE K F te δ2 fun y => y = f x)) ∧ P ((xs.filter c).map f)) : WN K F (tLc wi g tt te vs) δ P :=
  wn_lc ht (h.imp fun ds ⟨α, xs, enc, f, c, e, hl, hb, p⟩ => by
    subst e
    refine ⟨fun i acc => acc = ((xs.take i).filter c).map f, rfl, by rw [List.length_map]; exact hl, fun i d acc hd ha => ?_, fun acc ha => ?_⟩
    · rw [List.getElem?_map] at hd
      cases q : xs[i]? with
      | none => rw [q] at hd; cases hd
      | some x =>
        rw [q] at hd
        cases hd
        have hx := List.mem_of_getElem? q
        have hw := hb x hx
        intro L σ H v k xx dv Q c'
        have tk : xs.take (i + 1) = xs.take i ++ [x] := by rw [List.take_add_one, q]; rfl
        refine hw L σ H v k xx dv Q fun σ' H' δ' p e1 k1 x1 l1 f1 => c' σ' H' δ' (p.imp fun b hb2 => ⟨fun z => ?_, fun z => ?_⟩) e1 k1 x1 l1 f1
        · obtain ⟨rfl, hb3⟩ := hb2
          refine (hb3 z).imp fun y hy => ?_
          subst hy ha
          rw [tk, List.filter_append, List.map_append, List.filter_cons_of_pos z]
          rfl
        · obtain ⟨rfl, hb3⟩ := hb2
          subst ha
          rw [tk, List.filter_append, List.map_append, List.filter_cons_of_neg (by rw [z]; simp)]
          simp
    · rw [List.length_map, List.take_length] at ha
      rw [ha]
      exact p)
/-- [e for x in xs], each item drawn: an item of enc's image with Q -/
theorem wn_drawn {wi : TI} {g : TG} {te : TE} {vs : List Nat} {P : List D → Prop} (ts : List Nat) (ht : ∀ t ∈ ts, t ∈ vs)
    (h : WI K F wi δ fun ds => ∃ (β : Type) (enc : β → D) (Q : Nat → β → Prop), ds.length ≤ 100000 ∧ (∀ i d, ds[i]? = some d → WG K F g ts d (wipeD δ vs) fun δ2 => WE K F te δ2 fun y => ∃ b, y = enc b ∧ Q i b) ∧
      ∀ l : List β, l.length = ds.length → (∀ i b, l[i]? = some b → Q i b) → P (l.map enc)) : WN K F (tLc wi g tYes te vs) δ P :=
  wn_lc ht (h.imp fun ds ⟨β, enc, R, hl, hb, p⟩ => by
    refine ⟨fun i acc => i ≤ ds.length ∧ ∃ l : List β, acc = l.map enc ∧ l.length = i ∧ ∀ i b, l[i]? = some b → R i b, ⟨Nat.zero_le _, [], rfl, rfl, fun i b hb => by simp at hb⟩, hl, fun i d acc hd ha => ?_, fun acc ha => ?_⟩
    · have hw := hb i d hd
      have hi := (List.getElem?_eq_some_iff.mp hd).1
      intro L σ H v k xx dv Q c
      refine hw L σ H v k xx dv Q fun σ' H' δ' p e1 k1 x1 l1 f1 => c σ' H' δ' (wt_yes ⟨fun _ => p.imp fun y hy => ?_, fun z => by cases z⟩) e1 k1 x1 l1 f1
      obtain ⟨b, rfl, hr⟩ := hy
      obtain ⟨_, l, rfl, h2, h3⟩ := ha
      refine ⟨hi, l ++ [b], by rw [List.map_append]; rfl, by rw [List.length_append, h2]; rfl, fun j y hy => ?_⟩
      by_cases hj : j < l.length
      · rw [List.getElem?_append_left hj] at hy
        exact h3 j y hy
      · rw [List.getElem?_append_right (by omega)] at hy
        have : j - l.length = 0 := by
          have := (List.getElem?_eq_some_iff.mp hy).1
          simp at this
          omega
        rw [this] at hy
        simp at hy
        subst hy
        have : j = i := by omega
        rw [this]
        exact hr
    · obtain ⟨_, l, rfl, h2, h3⟩ := ha
      exact p l h2 h3)
theorem rc_allM {α : Type} {xs : List α} {g : α → Bool} {P : D → Prop} (q : P (.bl (xs.all g))) : RC K F (rAll K) [.val (.lst (xs.map fun x => D.bl (g x)))] P := by
  have e : (xs.map fun x => D.bl (g x)) = (xs.map g).map D.bl := by rw [List.map_map]; rfl
  rw [e]
  refine rc_all ?_
  rw [List.all_map]
  exact q
theorem rc_anyM {α : Type} {xs : List α} {g : α → Bool} {P : D → Prop} (q : P (.bl (xs.any g))) : RC K F (rAny K) [.val (.lst (xs.map fun x => D.bl (g x)))] P := by
  have e : (xs.map fun x => D.bl (g x)) = (xs.map g).map D.bl := by rw [List.map_map]; rfl
  rw [e]
  refine rc_any ?_
  rw [List.any_map]
  exact q
theorem rc_isiInt {x : D} {t : Tg} {P : D → Prop} (e : x.tg = some t) (q : P (.bl (isI t .int))) : RC K F (rIsiA K) [.val x, .val (.raw (.ty "int"))] P := rc_isi (u := .int) rfl e (by decide) q
theorem rc_isiBl {x : D} {t : Tg} {P : D → Prop} (e : x.tg = some t) (q : P (.bl (isI t .bl))) : RC K F (rIsiA K) [.val x, .val (.raw (.ty "bool"))] P := rc_isi (u := .bl) rfl e (by decide) q
theorem rc_isiStr {x : D} {t : Tg} {P : D → Prop} (e : x.tg = some t) (q : P (.bl (isI t .str))) : RC K F (rIsiA K) [.val x, .val (.raw (.ty "str"))] P := rc_isi (u := .str) rfl e (by decide) q
theorem rc_isiLst {x : D} {t : Tg} {P : D → Prop} (e : x.tg = some t) (q : P (.bl (isI t .lst))) : RC K F (rIsiA K) [.val x, .val (.raw (.ty "list"))] P := rc_isi (u := .lst) rfl e (by decide) q
theorem rc_isiTup {x : D} {t : Tg} {P : D → Prop} (e : x.tg = some t) (q : P (.bl (isI t .tup))) : RC K F (rIsiA K) [.val x, .val (.raw (.ty "tuple"))] P := rc_isi (u := .tup) rfl e (by decide) q
theorem rc_isiDct {x : D} {t : Tg} {P : D → Prop} (e : x.tg = some t) (q : P (.bl (isI t .dct))) : RC K F (rIsiA K) [.val x, .val (.raw (.ty "dict"))] P := rc_isi (u := .dct) rfl e (by decide) q
theorem we_isiLT {te : TE} {P : D → Prop} (h : WE K F te δ fun x => ∃ t, x.tg = some t ∧ P (.bl (isI t .lst || isI t .tup))) :
    WE K F (tCB (rIsiA K) (tCons te (tCons (tTup (tCons (tC (.ty "list")) (tCons (tC (.ty "tuple")) tNil))) tNil))) δ P := we_isi2 (u := .lst) (w := .tup) rfl rfl (by decide) (by decide) h
theorem bx_tt {x : D} {A B : Prop} (h : x = .bl true) (a : A) : ∃ b, x = .bl b ∧ (b = true → A) ∧ (b = false → B) := ⟨true, h, fun _ => a, fun z => Bool.noConfusion z⟩
theorem bx_tf {x : D} {A B : Prop} (h : x = .bl false) (a : B) : ∃ b, x = .bl b ∧ (b = true → A) ∧ (b = false → B) := ⟨false, h, (fun z => Bool.noConfusion z), fun _ => a⟩
theorem bx_of {x : D} {A B : Prop} (h : x = .bl false) (a : A) : ∃ b, x = .bl b ∧ (b = false → A) ∧ (b = true → B) := ⟨false, h, fun _ => a, fun z => Bool.noConfusion z⟩
theorem bx_ot {x : D} {A B : Prop} (h : x = .bl true) (a : B) : ∃ b, x = .bl b ∧ (b = false → A) ∧ (b = true → B) := ⟨true, h, (fun z => Bool.noConfusion z), fun _ => a⟩
theorem by_tt {b : Bool} {A B : Prop} (h : b = true) (a : A) : (b = true → A) ∧ (b = false → B) := ⟨fun _ => a, fun z => by rw [h] at z; cases z⟩
theorem by_tf {b : Bool} {A B : Prop} (h : b = false) (a : B) : (b = true → A) ∧ (b = false → B) := ⟨(fun z => by rw [h] at z; cases z), fun _ => a⟩
theorem by_of {b : Bool} {A B : Prop} (h : b = false) (a : A) : (b = false → A) ∧ (b = true → B) := ⟨fun _ => a, fun z => by rw [h] at z; cases z⟩
theorem by_ot {b : Bool} {A B : Prop} (h : b = true) (a : B) : (b = false → A) ∧ (b = true → B) := ⟨(fun z => by rw [h] at z; cases z), fun _ => a⟩
theorem bl_of {b c : Bool} (h : b = c) : D.bl b = .bl c := congrArg D.bl h
theorem dt_of {p : Prop} [Decidable p] (h : p) : D.bl (decide p) = .bl true := congrArg D.bl (decide_eq_true h)
theorem df_of {p : Prop} [Decidable p] (h : ¬ p) : D.bl (decide p) = .bl false := congrArg D.bl (decide_eq_false h)
theorem nt_of {p : Prop} [Decidable p] (h : ¬ p) : D.bl (!decide p) = .bl true := congrArg D.bl (by rw [decide_eq_false h]; rfl)
theorem nf_of {p : Prop} [Decidable p] (h : p) : D.bl (!decide p) = .bl false := congrArg D.bl (by rw [decide_eq_true h]; rfl)
def tNev : TE := fun _ _ _ => False
theorem pe_never {e : Expr} : PE X e tNev := ⟨fun _ _ _ _ _ _ h => h.elim⟩
/-- a value as deep as n, no list longer than 1000 -/
def dle : Nat → D → Bool
  | _, .non => true
  | _, .bl _ => true
  | _, .int _ => true
  | _, .str _ => true
  | n + 1, .lst l => decide (l.length ≤ 1000) && l.all (dle n)
  | n + 1, .tup l => decide (l.length ≤ 1000) && l.all (dle n)
  | _, _ => false
theorem zipSame (enc : D → D → D) : ∀ l : List D, List.zipWith enc l l = l.map fun d => enc d d
  | [] => rfl
  | d :: ds => by rw [List.zipWith_cons_cons, zipSame enc ds]; rfl
/-- an owned slot read: what comes of it is no object -/
def D.small : D → Prop
  | .non => True
  | .bl _ => True
  | .int _ => True
  | .str _ => True
  | _ => False
theorem DV.small {G G' : Hp} {v : V} {d : D} (h : DV K G v d) (s : d.small) : DV K G' v d := by
  cases h with
  | non => exact .non
  | bl b => exact .bl b
  | int b => exact .int b
  | str b => exact .str b
  | raw v => exact .raw v
  | _ => exact s.elim
theorem we_peek {i : Nat} {o : OD} {te : TE} {P : D → Prop} (hi : δ[i]? = some (SD.own o)) (h : WE K F te (δ.set i (.val o.toD)) fun d => d.small ∧ P d) : WE K F te δ P := fun L σ H k x Q c => by
  obtain ⟨L', h1, k', x'⟩ := x.freeze k hi
  exact h L' σ H k' x' Q fun v H' d p e k1 dv => c v H' d p.2 e (k.next e k1.bag) (dv.small p.1)
theorem wt_peek {i : Nat} {o : OD} {te : TT} {P : Bool → Prop} (hi : δ[i]? = some (SD.own o)) (h : WT K F te (δ.set i (.val o.toD)) P) : WT K F te δ P := fun L σ H k x Q c => by
  obtain ⟨L', h1, k', x'⟩ := x.freeze k hi
  exact h L' σ H k' x' Q fun v H' p e k1 => c v H' p e (k.next e k1.bag)
end DL

end
section
namespace DL
open PySem L2
variable {K : PySem.W.Frag} {F : Fr} {δ : List SD} {X : Cx}

/-! ### one value, nothing drawn -/
def EV (K : PySem.W.Frag) (F : Fr) (te : TE) (δ : List SD) (v : D) : Prop := WE K F te δ fun d => d = v
def ET (K : PySem.W.Frag) (F : Fr) (tt : TT) (δ : List SD) (b : Bool) : Prop := WT K F tt δ fun c => c = b
def ED (K : PySem.W.Frag) (F : Fr) (ta : TA) (δ : List SD) (ds : List D) : Prop := WA K F ta δ fun as => as = ds.map SD.val
def EO (K : PySem.W.Frag) (F : Fr) (to : TO) (δ : List SD) (o : Option Int) : Prop := WO K F to δ fun p => p = o
def EI (K : PySem.W.Frag) (F : Fr) (wi : TI) (δ : List SD) (ds : List D) : Prop := WI K F wi δ fun es => es = ds
def RV (K : PySem.W.Frag) (F : Fr) (r : R2) (x y z : D) : Prop := RD K F r x y fun d => d = z
def UV (K : PySem.W.Frag) (F : Fr) (r : V → Hp → VK → Prop) (x z : D) : Prop := RU K F r x fun d => d = z
def CV (K : PySem.W.Frag) (F : Fr) (r : List V → Hp → VK → Prop) (ds : List D) (z : D) : Prop := RC K F r (ds.map SD.val) fun d => d = z
def SV (K : PySem.W.Frag) (F : Fr) (r : V → Option Int → Option Int → Hp → VK → Prop) (x : D) (lo hi : Option Int) (z : D) : Prop := RS K F r x lo hi fun d => d = z
section
variable {ta tb te : TE} {x y z v : D} {r : R2} {i j : Int} {a b : Bool} {tt tu : TT} {tA : TA} {ds : List D}
theorem EV.we {P : D → Prop} (h : EV K F te δ v) (q : P v) : WE K F te δ P := h.imp fun d e => by rw [e]; exact q
theorem ET.wt {P : Bool → Prop} (h : ET K F tt δ b) (q : P b) : WT K F tt δ P := h.imp fun d e => by rw [e]; exact q
theorem ED.wa {P : List SD → Prop} (h : ED K F tA δ ds) (q : P (ds.map SD.val)) : WA K F tA δ P := h.imp fun d e => by rw [e]; exact q
theorem EI.wi {wi : TI} {P : List D → Prop} (h : EI K F wi δ ds) (q : P ds) : WI K F wi δ P := h.imp fun d e => by rw [e]; exact q
theorem ev_var {i : Nat} (h : δ[i]? = some (.val v)) : EV K F (tVar i) δ v := we_var h rfl
theorem ev_int : EV K F (tC (.int i)) δ (.int i) := we_int rfl
theorem ev_bl : EV K F (tC (.bl b)) δ (.bl b) := we_bl rfl
theorem ev_str {s : Str} : EV K F (tC (.str s)) δ (.str s) := we_str rfl
theorem ev_non : EV K F (tC .non) δ .non := we_non rfl
theorem ev_raw {u : V} : EV K F (tC u) δ (.raw u) := we_raw rfl
theorem ev_op (ha : EV K F ta δ x) (hb : EV K F tb δ y) (hr : RV K F r x y z) : EV K F (tOp r ta tb) δ z := we_op (ha.we (hb.we hr))
theorem ev_un {r : V → Hp → VK → Prop} (ha : EV K F ta δ x) (hr : UV K F r x z) : EV K F (tUn r ta) δ z := we_un (ha.we hr)
theorem ev_if (h : ET K F tt δ b) (h2 : (b = true ∧ EV K F ta δ v) ∨ (b = false ∧ EV K F tb δ v) ∨ ((b = true → EV K F ta δ v) ∧ (b = false → EV K F tb δ v))) : EV K F (tIf tt ta tb) δ v := we_if (h.wt (by
  rcases h2 with ⟨rfl, h2⟩ | ⟨rfl, h2⟩ | h2
  · exact ⟨fun _ => h2, fun z => Bool.noConfusion z⟩
  · exact ⟨(fun z => Bool.noConfusion z), fun _ => h2⟩
  · exact h2))
theorem ev_and (ha : EV K F ta δ x) (h : (x = .bl false ∧ v = .bl false) ∨ (x = .bl true ∧ EV K F tb δ v) ∨ ∃ a b, x = .bl a ∧ (a = true → EV K F tb δ (.bl b)) ∧ v = .bl (a && b)) : EV K F (tAndV ta tb) δ v := we_and (ha.we (by
  rcases h with ⟨rfl, rfl⟩ | ⟨rfl, h⟩ | ⟨a, b, rfl, h, rfl⟩
  · exact bx_tf rfl rfl
  · exact bx_tt rfl h
  · cases a with
    | true => exact bx_tt rfl (by have q := h rfl; rw [Bool.true_and]; exact q)
    | false => exact bx_tf rfl (by simp)))
theorem ev_or (ha : EV K F ta δ x) (h : (x = .bl true ∧ v = .bl true) ∨ (x = .bl false ∧ EV K F tb δ v) ∨ ∃ a b, x = .bl a ∧ (a = false → EV K F tb δ (.bl b)) ∧ v = .bl (a || b)) : EV K F (tOrV ta tb) δ v := we_or (ha.we (by
  rcases h with ⟨rfl, rfl⟩ | ⟨rfl, h⟩ | ⟨a, b, rfl, h, rfl⟩
  · exact bx_ot rfl rfl
  · exact bx_of rfl h
  · cases a with
    | false => exact bx_of rfl (by have q := h rfl; rw [Bool.false_or]; exact q)
    | true => exact bx_ot rfl (by simp)))
theorem ev_not (ha : EV K F ta δ x) (h : x = .bl b) : EV K F (tNotV ta) δ (.bl (!b)) := we_not (ha.we ⟨b, h, rfl⟩)
theorem ev_chain {r' : R2} {tc : TE} {w : D} (ha : EV K F ta δ x) (hb : EV K F tb δ y) (hr : RV K F r x y w) (h : (w = .bl false ∧ v = .bl false) ∨ (∃ a b u, w = .bl a ∧ (a = true → EV K F tc δ u) ∧ (a = true → RV K F r' y u (.bl b)) ∧ v = .bl (a && b))) : EV K F (tChain r r' ta tb tc) δ v :=
  we_chain (ha.we (hb.we (hr.imp fun d e => by
    subst e
    rcases h with ⟨rfl, rfl⟩ | ⟨a, b, u, rfl, h1, h2, rfl⟩
    · exact bx_tf rfl rfl
    · cases a with
      | true => exact bx_tt rfl ((h1 rfl).we ((h2 rfl).imp fun d e => by rw [e]; simp))
      | false => exact bx_tf rfl (by simp))))
theorem ed_nil : ED K F tNil δ [] := wa_nil rfl
theorem ed_cons {tr : TA} (ha : EV K F ta δ x) (hr : ED K F tr δ ds) : ED K F (tCons ta tr) δ (x :: ds) := wa_cons (ha.we (hr.wa rfl))
theorem ed_starT {tr : TA} {es : List D} (ha : EV K F ta δ (.tup es)) (hr : ED K F tr δ ds) : ED K F (StX.tStar K ta tr) δ (es ++ ds) := wa_star (ha.we ⟨es, .inl rfl, hr.wa (by rw [List.map_append])⟩)
theorem ed_starL {tr : TA} {es : List D} (ha : EV K F ta δ (.lst es)) (hr : ED K F tr δ ds) : ED K F (StX.tStar K ta tr) δ (es ++ ds) := wa_star (ha.we ⟨es, .inr rfl, hr.wa (by rw [List.map_append])⟩)
theorem ev_cb {r : List V → Hp → VK → Prop} (ha : ED K F tA δ ds) (hr : CV K F r ds z) : EV K F (tCB r tA) δ z := we_cb (ha.wa hr)
theorem ev_tup (ha : ED K F tA δ ds) (hl : ds.length ≤ 1000) : EV K F (tTup tA) δ (.tup ds) := we_tup (ha.wa ⟨ds, rfl, hl, rfl⟩)
theorem ev_lst (ha : ED K F tA δ ds) (hl : ds.length ≤ 1000) : EV K F (tLst tA) δ (.lst ds) := we_lst (ha.wa ⟨ds, rfl, hl, rfl⟩)
theorem ev_isiLT {t : Tg} (h : EV K F te δ x) (e : x.tg = some t) : EV K F (tCB (rIsiA K) (tCons te (tCons (tTup (tCons (tC (.ty "list")) (tCons (tC (.ty "tuple")) tNil))) tNil))) δ (.bl (isI t .lst || isI t .tup)) := we_isiLT (h.we ⟨t, e, rfl⟩)
theorem ev_sl {r : V → Option Int → Option Int → Hp → VK → Prop} {tl th : TO} {lo hi : Option Int} (h : EV K F te δ x) (hl : EO K F tl δ lo) (hh : EO K F th δ hi) (hr : SV K F r x lo hi z) : EV K F (tSl r te tl th) δ z :=
  we_sl (h.we (fun L σ H k xx Q c => hl L σ H k xx Q fun o H' e => by
    subst e
    exact c o H' (fun L σ H k xx Q c => hh L σ H k xx Q fun o H' e => by
      subst e
      exact c o H' hr)))
theorem eo_no : EO K F tNoPart δ none := wo_no rfl
theorem eo_part (h : EV K F te δ x) (e : x = .int i) : EO K F (tPart te) δ (some i) := wo_part (h.we ⟨i, e, rfl⟩)
theorem et_test (h : EV K F te δ x) (e : x = .bl b) : ET K F (tTest te) δ b := wt_test (h.we ⟨b, e, rfl⟩)
theorem et_B (h : EV K F te δ x) (e : x = .bl b) : ET K F (tB te) δ b := wt_B (h.we ⟨b, e, rfl⟩)
theorem et_yes : ET K F tYes δ true := wt_yes rfl
theorem et_not (h : ET K F tt δ b) : ET K F (tNot tt) δ (!b) := wt_not (h.wt rfl)
theorem et_and (h : ET K F tt δ a) (h2 : (a = false ∧ b = false) ∨ (a = true ∧ ET K F tu δ b) ∨ ∃ c, (a = true → ET K F tu δ c) ∧ b = (a && c)) : ET K F (tAnd tt tu) δ b := wt_and (h.wt (by
  rcases h2 with ⟨rfl, rfl⟩ | ⟨rfl, h3⟩ | ⟨c, h3, rfl⟩
  · exact by_tf rfl rfl
  · exact by_tt rfl h3
  · cases a with
    | true => exact by_tt rfl (by have q := h3 rfl; rw [Bool.true_and]; exact q)
    | false => exact by_tf rfl rfl))
theorem et_or (h : ET K F tt δ a) (h2 : (a = true ∧ b = true) ∨ (a = false ∧ ET K F tu δ b) ∨ ∃ c, (a = false → ET K F tu δ c) ∧ b = (a || c)) : ET K F (tOr tt tu) δ b := wt_or (h.wt (by
  rcases h2 with ⟨rfl, rfl⟩ | ⟨rfl, h3⟩ | ⟨c, h3, rfl⟩
  · exact by_ot rfl rfl
  · exact by_of rfl h3
  · cases a with
    | false => exact by_of rfl (by have q := h3 rfl; rw [Bool.false_or]; exact q)
    | true => exact by_ot rfl rfl))
theorem and_F (h : x = .bl false) : (x = .bl false ∧ D.bl false = .bl false) ∨ (x = .bl true ∧ EV K F tb δ (.bl false)) ∨ ∃ a b, x = .bl a ∧ (a = true → EV K F tb δ (.bl b)) ∧ D.bl false = .bl (a && b) := .inl ⟨h, rfl⟩
theorem and_T (h : x = .bl true) (q : EV K F tb δ v) : (x = .bl false ∧ v = .bl false) ∨ (x = .bl true ∧ EV K F tb δ v) ∨ ∃ a b, x = .bl a ∧ (a = true → EV K F tb δ (.bl b)) ∧ v = .bl (a && b) := .inr (.inl ⟨h, q⟩)
theorem and_S (h : x = .bl a) (q : a = true → EV K F tb δ y) (e : y = .bl b) : (x = .bl false ∧ D.bl (a && b) = .bl false) ∨ (x = .bl true ∧ EV K F tb δ (.bl (a && b))) ∨ ∃ a' b', x = .bl a' ∧ (a' = true → EV K F tb δ (.bl b')) ∧ D.bl (a && b) = .bl (a' && b') := .inr (.inr ⟨a, b, h, fun z => e ▸ q z, rfl⟩)
theorem or_T (h : x = .bl true) : (x = .bl true ∧ D.bl true = .bl true) ∨ (x = .bl false ∧ EV K F tb δ (.bl true)) ∨ ∃ a b, x = .bl a ∧ (a = false → EV K F tb δ (.bl b)) ∧ D.bl true = .bl (a || b) := .inl ⟨h, rfl⟩
theorem or_F (h : x = .bl false) (q : EV K F tb δ v) : (x = .bl true ∧ v = .bl true) ∨ (x = .bl false ∧ EV K F tb δ v) ∨ ∃ a b, x = .bl a ∧ (a = false → EV K F tb δ (.bl b)) ∧ v = .bl (a || b) := .inr (.inl ⟨h, q⟩)
theorem or_S (h : x = .bl a) (q : a = false → EV K F tb δ y) (e : y = .bl b) : (x = .bl true ∧ D.bl (a || b) = .bl true) ∨ (x = .bl false ∧ EV K F tb δ (.bl (a || b))) ∨ ∃ a' b', x = .bl a' ∧ (a' = false → EV K F tb δ (.bl b')) ∧ D.bl (a || b) = .bl (a' || b') := .inr (.inr ⟨a, b, h, fun z => e ▸ q z, rfl⟩)
theorem tand_F (h : a = false) : (a = false ∧ false = false) ∨ (a = true ∧ ET K F tu δ false) ∨ ∃ c, (a = true → ET K F tu δ c) ∧ false = (a && c) := .inl ⟨h, rfl⟩
theorem tand_T (h : a = true) (q : ET K F tu δ b) : (a = false ∧ b = false) ∨ (a = true ∧ ET K F tu δ b) ∨ ∃ c, (a = true → ET K F tu δ c) ∧ b = (a && c) := .inr (.inl ⟨h, q⟩)
theorem tand_S (q : a = true → ET K F tu δ b) : (a = false ∧ (a && b) = false) ∨ (a = true ∧ ET K F tu δ (a && b)) ∨ ∃ c, (a = true → ET K F tu δ c) ∧ (a && b) = (a && c) := .inr (.inr ⟨b, q, rfl⟩)
theorem tor_T (h : a = true) : (a = true ∧ true = true) ∨ (a = false ∧ ET K F tu δ true) ∨ ∃ c, (a = false → ET K F tu δ c) ∧ true = (a || c) := .inl ⟨h, rfl⟩
theorem tor_F (h : a = false) (q : ET K F tu δ b) : (a = true ∧ b = true) ∨ (a = false ∧ ET K F tu δ b) ∨ ∃ c, (a = false → ET K F tu δ c) ∧ b = (a || c) := .inr (.inl ⟨h, q⟩)
theorem tor_S (q : a = false → ET K F tu δ b) : (a = true ∧ (a || b) = true) ∨ (a = false ∧ ET K F tu δ (a || b)) ∨ ∃ c, (a = false → ET K F tu δ c) ∧ (a || b) = (a || c) := .inr (.inr ⟨b, q, rfl⟩)
theorem if_T (h : b = true) (q : EV K F ta δ v) : (b = true ∧ EV K F ta δ v) ∨ (b = false ∧ EV K F tb δ v) ∨ ((b = true → EV K F ta δ v) ∧ (b = false → EV K F tb δ v)) := .inl ⟨h, q⟩
theorem if_F (h : b = false) (q : EV K F tb δ v) : (b = true ∧ EV K F ta δ v) ∨ (b = false ∧ EV K F tb δ v) ∨ ((b = true → EV K F ta δ v) ∧ (b = false → EV K F tb δ v)) := .inr (.inl ⟨h, q⟩)
theorem if_S (q1 : b = true → EV K F ta δ x) (q2 : b = false → EV K F tb δ y) : (b = true ∧ EV K F ta δ (if b = true then x else y)) ∨ (b = false ∧ EV K F tb δ (if b = true then x else y)) ∨ ((b = true → EV K F ta δ (if b = true then x else y)) ∧ (b = false → EV K F tb δ (if b = true then x else y))) :=
  .inr (.inr ⟨fun z => by rw [if_pos z]; exact q1 z, fun z => by rw [if_neg (by rw [z]; exact Bool.false_ne_true)]; exact q2 z⟩)
/-- a def that raises nothing -/
theorem ev_call {sp : DSp} (ha : ED K F tA δ ds) (h : sp (ds.map SD.val) (fun d => d = v) X0) : EV K F (tCall (spOf K sp) [] E0 tA) δ v := we_call0 (dds := []) (fun _ => .nil) (ha.wa (by simpa using h))
theorem ei_list (h : EV K F te δ x) (e : x = .lst ds) : EI K F (iList K te) δ ds := wi_list (h.we ⟨ds, e, rfl⟩)
theorem ei_tup (h : EV K F te δ x) (e : x = .tup ds) : EI K F (iTup K te) δ ds := wi_tup (h.we ⟨ds, e, rfl⟩)
theorem ei_rng1 (h : ED K F tA δ [.int j]) (h1 : -(2 ^ 62) ≤ j) (h2 : j < 2 ^ 62) : EI K F (iRng1 tA) δ (rng 0 j.toNat) := wi_rng1 (h.wa ⟨j, rfl, h1, h2, rfl⟩)
theorem ei_rng2 (h : ED K F tA δ [.int i, .int j]) (h1 : -(2 ^ 62) ≤ i ∧ i < 2 ^ 62 ∧ -(2 ^ 62) ≤ j ∧ j < 2 ^ 62) : EI K F (iRng2 tA) δ (rng i (j - i).toNat) := wi_rng2 (h.wa ⟨i, j, rfl, h1, rfl⟩)
theorem ei_zipT {xs ys : List D} (h : ED K F tA δ [.tup xs, .tup ys]) : EI K F (RZ.iZipA K tA) δ (List.zipWith (fun x y => D.tup [x, y]) xs ys) := wi_zip (h.wa ⟨xs, ys, .inr rfl, rfl⟩)
theorem ei_zipL {xs ys : List D} (h : ED K F tA δ [.lst xs, .lst ys]) : EI K F (RZ.iZipA K tA) δ (List.zipWith (fun x y => D.tup [x, y]) xs ys) := wi_zip (h.wa ⟨xs, ys, .inl rfl, rfl⟩)
/-- a target assigned -/
def EG (K : PySem.W.Frag) (F : Fr) (g : TG) (ts : List Nat) (d : D) (δ ε : List SD) : Prop := WG K F g ts d δ fun δ' => δ' = ε
def EGs (K : PySem.W.Frag) (F : Fr) (g : TGs) (ts : List Nat) (ds : List D) (δ ε : List SD) : Prop := WGs K F g ts ds δ fun δ' => δ' = ε
theorem WG.imp {g : TG} {ts : List Nat} {d : D} {P P' : List SD → Prop} (h : WG K F g ts d δ P) (i : ∀ e, P e → P' e) : WG K F g ts d δ P' := fun L σ H v k x dv Q c => h L σ H v k x dv Q fun σ' H' δ' p => c σ' H' δ' (i δ' p)
theorem WGs.imp {g : TGs} {ts : List Nat} {d : List D} {P P' : List SD → Prop} (h : WGs K F g ts d δ P) (i : ∀ e, P e → P' e) : WGs K F g ts d δ P' := fun L σ H v k x dv Q c => h L σ H v k x dv Q fun σ' H' δ' p => c σ' H' δ' (i δ' p)
theorem EG.wg {g : TG} {ts : List Nat} {d : D} {ε : List SD} {P : List SD → Prop} (h : EG K F g ts d δ ε) (q : P ε) : WG K F g ts d δ P := h.imp fun e z => by rw [z]; exact q
theorem eg_name {i : Nat} {d : D} {ε : List SD} (h : δ.set i (.val d) = ε) : EG K F (gName i) [i] d δ ε := wg_name h
theorem egs_nil : EGs K F gNil [] [] δ δ := wgs_nil rfl
theorem egs_nm {i : Nat} {u : TGs} {us : List Nat} {d : D} {ds : List D} {ε : List SD} (h : EGs K F u us ds (δ.set i (.val d)) ε) : EGs K F (gCons (gName i) u) (i :: us) (d :: ds) δ ε := wgs_nm h
theorem eg_tup {n : Nat} {t : TGs} {ts : List Nat} {ds : List D} {ε : List SD} (hn : ds.length = n) (h : EGs K F t ts ds δ ε) : EG K F (gTup K n t) ts (.tup ds) δ ε := wg_tup hn h
/-- comprehensions -/
theorem en_map {α : Type} {wi : TI} {g : TG} {vs : List Nat} {xs : List α} {enc f : α → D} {ε : α → List SD} {ts : List Nat} (hi : EI K F wi δ ds) (hd : ds = xs.map enc) (hl : xs.length ≤ 100000)
    (hg : ∀ x, EG K F g ts (enc x) (wipeD δ vs) (ε x)) (he : ∀ x ∈ xs, EV K F te (ε x) (f x)) (ht : ∀ t ∈ ts, t ∈ vs) : WN K F (tLc wi g tYes te vs) δ fun es => es = xs.map f :=
  wn_map ts ht (hi.wi ⟨α, xs, enc, f, hd, hl, fun x hx => (hg x).wg (he x hx), rfl⟩)
theorem ev_map {α : Type} {wi : TI} {g : TG} {vs : List Nat} {xs : List α} {enc f : α → D} {ε : α → List SD} {ts : List Nat} (hi : EI K F wi δ ds) (hd : ds = xs.map enc) (hl : xs.length ≤ 100000)
    (hg : ∀ x, EG K F g ts (enc x) (wipeD δ vs) (ε x)) (he : ∀ x ∈ xs, EV K F te (ε x) (f x)) (ht : ∀ t ∈ ts, t ∈ vs) : EV K F (tLc wi g tYes te vs) δ (.lst (xs.map f)) :=
  we_new (fun L σ H k x Q c => en_map hi hd hl hg he ht L σ H k x Q fun p ys H' es e => by
    subst e
    exact c p ys H' _ rfl)
theorem ev_filter {α : Type} {wi : TI} {g : TG} {vs : List Nat} {xs : List α} {enc f : α → D} {c : α → Bool} {ε : α → List SD} {ts : List Nat} (hi : EI K F wi δ ds) (hd : ds = xs.map enc) (hl : xs.length ≤ 100000)
    (hg : ∀ x, EG K F g ts (enc x) (wipeD δ vs) (ε x)) (hc : ∀ x ∈ xs, ET K F tt (ε x) (c x)) (he : ∀ x ∈ xs, c x = true → EV K F te (ε x) (f x)) (ht : ∀ t ∈ ts, t ∈ vs) : EV K F (tLc wi g tt te vs) δ (.lst ((xs.filter c).map f)) :=
  we_new (wn_filter ts ht (hi.wi ⟨α, xs, enc, f, c, hd, hl, fun x hx => (hg x).wg ((hc x hx).wt ⟨rfl, fun z => he x hx z⟩), rfl⟩))
/-! ### operations -/
theorem rv_add : RV K F (rAddA K) (.int i) (.int j) (.int (i + j)) := rd_add rfl
theorem rv_adds {s t : Str} (h : s.length + t.length ≤ 1000000) : RV K F (rAddA K) (.str s) (.str t) (.str (s ++ t)) := rd_adds h rfl
theorem rv_cat {s t : List D} (h : s.length + t.length ≤ 100000) : RV K F (rAddA K) (.lst s) (.lst t) (.lst (s ++ t)) := rd_cat h rfl
theorem rv_i0 {g : Int → Int → Int} : RV K F (rI0 fun i j => .int (g i j)) (.int i) (.int j) (.int (g i j)) := rd_i0 rfl
theorem rv_b0 {g : Int → Int → Bool} : RV K F (rI0 fun i j => .bl (g i j)) (.int i) (.int j) (.bl (g i j)) := rd_b0 rfl
theorem rv_iC {C : Int → Int → Prop} {g : Int → Int → Int} (h : C i j) : RV K F (rI C fun i j => .int (g i j)) (.int i) (.int j) (.int (g i j)) := rd_iC h rfl
theorem rv_mul (h : CMul i j) : RV K F (rMulA K) (.int i) (.int j) (.int (i * j)) := rd_mul h rfl
theorem rv_eqI : RV K F (rEqA K) (.int i) (.int j) (.bl (decide (i = j))) := rd_eqI rfl
theorem rv_eqS {s t : Str} : RV K F (rEqA K) (.str s) (.str t) (.bl (decide (s = t))) := rd_eqS rfl
theorem rv_eqB : RV K F (rEqA K) (.bl a) (.bl b) (.bl (decide (a = b))) := rd_eqB rfl
theorem rv_neI : RV K F (rNeA K) (.int i) (.int j) (.bl (!decide (i = j))) := rd_neI rfl
theorem rv_neS {s t : Str} : RV K F (rNeA K) (.str s) (.str t) (.bl (!decide (s = t))) := rd_neS rfl
theorem rv_neB : RV K F (rNeA K) (.bl a) (.bl b) (.bl (!decide (a = b))) := rd_neB rfl
theorem rv_eqV {u w : V} (hx : x.sc = some u) (hy : y.sc = some w) (hs : scal u w = true) : RV K F (rEqA K) x y (.bl (decide (u = w))) := rd_eqV hx hy hs rfl
theorem rv_eqD (hx : x.ok) (hy : y.ok) : RV K F (rEqA K) x y (.bl (eqD x y)) := rd_eqD hx hy rfl
theorem rv_neD (hx : x.ok) (hy : y.ok) : RV K F (rNeA K) x y (.bl (!eqD x y)) := rd_neD hx hy rfl
theorem rv_isN (hr : ∀ u, x ≠ .raw u) : RV K F rIsNo x .non (.bl x.isN) := rd_isN hr rfl
theorem rv_notN (hr : ∀ u, x ≠ .raw u) : RV K F rNotNo x .non (.bl (!x.isN)) := rd_notN hr rfl
theorem rv_ixL (e : L2.atI ds i = some v) : RV K F (rIx K) (.lst ds) (.int i) v := rd_ixL e rfl
theorem rv_ixT (e : L2.atI ds i = some v) : RV K F (rIx K) (.tup ds) (.int i) v := rd_ixT e rfl
theorem rv_ixS {s : Str} {ch : Nat} (hl : s.length ≤ 100000) (e : L2.atI s.cps.toList i = some ch) : RV K F (rIx K) (.str s) (.int i) (.str ⟨#[ch]⟩) := rd_ixS hl e rfl
theorem uv_neg {g : Int → Int} : UV K F (rU fun i => .int (g i)) (.int i) (.int (g i)) := ru_neg rfl
theorem sv_L {lo hi : Option Int} : SV K F (rSlA K) (.lst ds) lo hi (.lst (cutD ds lo hi)) := rs_L rfl
theorem sv_T {lo hi : Option Int} (hw : ¬ (HT.sIx ds.length 0 lo = 0 ∧ HT.sIx ds.length ds.length hi = ds.length)) : SV K F (rSlA K) (.tup ds) lo hi (.tup (cutD ds lo hi)) := rs_T hw rfl
theorem sv_T0 {lo hi : Option Int} : SV K F (rSlA K) (.tup ds) lo hi (.tup (cutD ds lo hi)) := rs_T0 rfl
theorem rv_catT {s t : List D} (h : s.length + t.length ≤ 100000) : RV K F (rAddA K) (.tup s) (.tup t) (.tup (s ++ t)) := rd_catT0 h rfl
theorem sv_S {s : Str} {lo hi : Option Int} (hl : s.length ≤ 100000) : SV K F (rSlA K) (.str s) lo hi (.str (cutS s lo hi)) := rs_S hl rfl
theorem cv_lenL : CV K F (rLenA K) [.lst ds] (.int ds.length) := rc_lenL rfl
theorem cv_lenT : CV K F (rLenA K) [.tup ds] (.int ds.length) := rc_lenT rfl
theorem cv_lenS {s : Str} (hl : s.length ≤ 100000) : CV K F (rLenA K) [.str s] (.int s.length) := rc_lenS hl rfl
theorem cv_int : CV K F rInt1 [.int i] (.int i) := rc_int rfl
theorem cv_intB : CV K F rInt1 [.bl b] (.int (if b then 1 else 0)) := rc_intB rfl
theorem cv_all {α : Type} {xs : List α} {g : α → Bool} : CV K F (rAll K) [.lst (xs.map fun x => D.bl (g x))] (.bl (xs.all g)) := rc_allM rfl
theorem cv_any {α : Type} {xs : List α} {g : α → Bool} : CV K F (rAny K) [.lst (xs.map fun x => D.bl (g x))] (.bl (xs.any g)) := rc_anyM rfl
theorem cv_max2 : CV K F (rMaxA K) [.int i, .int j] (.int (max i j)) := rc_max2 rfl
theorem cv_listL : CV K F (rListA K) [.lst ds] (.lst ds) := rc_listL rfl
theorem cv_listT : CV K F (rListA K) [.tup ds] (.lst ds) := rc_listT rfl
theorem cv_tupL : CV K F (rTupA K) [.lst ds] (.tup ds) := rc_tupL rfl
theorem cv_tupT : CV K F (rTupA K) [.tup ds] (.tup ds) := rc_tupT rfl
theorem cv_strS {s : Str} : CV K F rStrA [.str s] (.str s) := rc_strS rfl
theorem cv_str (h : i.natAbs < 2 ^ 60) : CV K F rStrA [.int i] (.str (toString i)) := rc_str h rfl
theorem cv_isiInt {t : Tg} (e : x.tg = some t) : CV K F (rIsiA K) [x, .raw (.ty "int")] (.bl (isI t .int)) := rc_isiInt e rfl
theorem cv_isiBl {t : Tg} (e : x.tg = some t) : CV K F (rIsiA K) [x, .raw (.ty "bool")] (.bl (isI t .bl)) := rc_isiBl e rfl
theorem cv_isiStr {t : Tg} (e : x.tg = some t) : CV K F (rIsiA K) [x, .raw (.ty "str")] (.bl (isI t .str)) := rc_isiStr e rfl
theorem cv_isiLst {t : Tg} (e : x.tg = some t) : CV K F (rIsiA K) [x, .raw (.ty "list")] (.bl (isI t .lst)) := rc_isiLst e rfl
theorem cv_isiTup {t : Tg} (e : x.tg = some t) : CV K F (rIsiA K) [x, .raw (.ty "tuple")] (.bl (isI t .tup)) := rc_isiTup e rfl
theorem cv_isiDct {t : Tg} (e : x.tg = some t) : CV K F (rIsiA K) [x, .raw (.ty "dict")] (.bl (isI t .dct)) := rc_isiDct e rfl
/-! ### statements -/
variable {C : Cn}
theorem es_set {i : Nat} (h : EV K F te δ v) (q : C.nx (δ.set i (.val v))) : WS K F (tAsg te (gName i)) δ C := ws_set (h.we q)
theorem es_asg {g : TG} {ts : List Nat} {ε : List SD} (h : EV K F te δ v) (hg : EG K F g ts v δ ε) (q : C.nx ε) : WS K F (tAsg te g) δ C := ws_asg (h.we (hg.wg q))
theorem es_ret (h : EV K F te δ v) (q : C.rt v) : WS K F (tRet te) δ C := ws_ret (h.we q)
theorem es_if {t u : TS} (h : ET K F tt δ b) (q : (b = true ∧ WS K F t δ C) ∨ (b = false ∧ WS K F u δ C) ∨ ((b = true → WS K F t δ C) ∧ (b = false → WS K F u δ C))) : WS K F (tIfS tt t u) δ C := ws_if (h.wt (by
  rcases q with ⟨rfl, q⟩ | ⟨rfl, q⟩ | q
  · exact by_tt rfl q
  · exact by_tf rfl q
  · exact q))
theorem es_append {i : Nat} {ds : List D} (hi : δ[i]? = some (SD.own (.lst ds))) (hl : ds.length ≤ 100000) (h : EV K F te δ v) (q : C.nx (δ.set i (.own (.lst (ds ++ [v]))))) : WS K F (tDrop (tBM K "list" rAppend (tVar i) (tCons te tNil))) δ C := ws_append hi hl (h.we q)
theorem es_par {i j : Nat} (h : ED K F tA δ [x, y]) (q : C.nx ((δ.set i (.val x)).set j (.val y))) : WS K F (tPar i j tA) δ C := ws_par (h.wa ⟨x, y, rfl, q⟩)
theorem es_for {wi : TI} {g : TG} {ts : List Nat} {tb : TS} (h : EI K F wi δ ds) (Inv : Nat → List SD → Prop) (h0 : Inv 0 δ)
    (ht : ∀ i d δ', ds[i]? = some d → Inv i δ' → WG K F g ts d δ' fun δ2 => WS K F tb δ2 ⟨Inv (i + 1), C.rt, C.nx, Inv (i + 1), C.ro⟩) (he : ∀ δ', Inv ds.length δ' → C.nx δ') : WS K F (tFor wi g tb) δ C := ws_for (h.wi ⟨Inv, h0, ht, he⟩)
theorem ev_peek {i : Nat} {o : OD} (hi : δ[i]? = some (SD.own o)) (h : EV K F te (δ.set i (.val o.toD)) v) (hs : v.small) : EV K F te δ v := we_peek hi (h.we ⟨hs, rfl⟩)
theorem et_peek {i : Nat} {o : OD} (hi : δ[i]? = some (SD.own o)) (h : ET K F tt (δ.set i (.val o.toD)) b) : ET K F tt δ b := wt_peek hi (h.wt rfl)
end
end DL

end
section
/-! calls by keywords, over data -/
namespace DL
open PySem L2
theorem vals_getD {vs : List V} {us : List Value} (r : Vals vs us) (i : Nat) : RelV (vs.getD i .non) (us.getD i .none) := by
  rw [List.getD_eq_getElem?_getD, List.getD_eq_getElem?_getD]
  cases e : vs[i]? with
  | none =>
    rw [Vals.none_of r e]
    rfl
  | some v =>
    obtain ⟨u, h1, h2⟩ := Vals.get r e
    rw [h1]
    exact h2
theorem DVs.getD {K : PySem.W.Frag} {G : Hp} {vs : List V} {ds : List D} (r : DVs K G vs ds) (i : Nat) : DV K G (vs.getD i .non) (ds.getD i .non) := by
  rw [List.getD_eq_getElem?_getD, List.getD_eq_getElem?_getD]
  cases e : ds[i]? with
  | none =>
    have h : vs[i]? = none := by
      rw [List.getElem?_eq_none_iff] at e ⊢
      rw [r.length]
      exact e
    rw [h]
    exact .non
  | some d =>
    obtain ⟨v, h1, h2⟩ := r.get e
    rw [h1]
    exact h2
section
variable {X : Cx} {CX : CXT} {k : Nat} {f : Addr} {fd : FuncData} {ps ks : List Str} {sp : Sp} {E : XK} {x : Str} {p pos : Pos} {kws : List Keyword} {tk : TA} {g : List Value → List Value → List Value} {gV : List V → List V → List V}
/-- every argument by its name -/
theorem pe_callN0 (fk : FnOk X.prog X.w X.K X.mg X.base CX k f fd ps sp) (room : Room k X.A) (gl : Gl X x) (at_ : X.mg x = some (.ref f)) (kp : PySem.W.keepIn X.K (.ref f) = true) (bn : KBn X.K fd ps 0 ks g gV) (pas : Passes CX X E)
    (args : PK X kws tk) (hall : (backToKw pos (keywordEach kws X.env)).all (·.1.isSome) = true := by rfl) (hks : (backToKw pos (keywordEach kws X.env)).filterMap (·.1) = ks := by rfl) (hdb : (x == ("__debug__" : Str)) = false := by decide)
    (hpl : ((backTo pos (starEach [] X.env)).any (·.1) || (backToKw pos (keywordEach kws X.env)).any (·.1.isNone)) = false := by rfl) : PE X (.Call (.Name x p) [] kws pos) (tCallN 0 ks.length sp gV E tNil tk) := by
  constructor
  intro pins s σ H Q I h
  apply wpAny_Call_Name_kw
  apply ld_glob I gl at_ _ hdb
  apply PySem.W.callWith_KW0 (h₀ := X.base) I.ok.mod.kin kp hall _ hpl
  refine thn (args.run pos pins s σ H _ I h) ?_
  rintro ws s2 ⟨zs, H2, I2, rz, l1, l2, q2⟩
  refine ⟨I2.kIn, ?_⟩
  rw [hks]
  exact run_fnN (us := []) (vs := []) fk room bn pas I2 .nil rz rfl l2 q2
end
section
variable {K : PySem.W.Frag} {F : Fr} {δ : List SD}
/-- f(.., k = e), no exception -/
theorem we_callN {sp : DSp} {n m : Nat} {gV : List V → List V → List V} (gD : List D → List D → List D) {ta tk : TA} {P : D → Prop} (hg : ∀ G vs zs ds es, DVs K G vs ds → DVs K G zs es → DVs K G (gV vs zs) (gD ds es))
    (h : WA K F ta δ fun as => ∃ ds : List D, as = ds.map SD.val ∧ ds.length = n ∧ WA K F tk δ fun bs => ∃ es : List D, bs = es.map SD.val ∧ es.length = m ∧ sp ((gD ds es).map SD.val) P X0) : WE K F (tCallN n m (spOf K sp) gV E0 ta tk) δ P := fun L σ H k x Q c =>
  h L σ H k x _ fun vs H1 as p e1 k1 av => by
    obtain ⟨ds, rfl, hn, p⟩ := p
    have dv := av.vals
    refine p L σ H1 k1 (x.next k e1) _ fun zs H2 bs p2 e2 k2 bv => ?_
    obtain ⟨es, rfl, hm, p2⟩ := p2
    have ev := bv.vals
    refine ⟨dv.length.trans hn, ev.length.trans hm, F.call L H2 E0 X0, _, P, rfl, k2.call0, rfl, ?_, p2, fun v H' d pd e b dv => c v H' d pd ((e1.trans e2).trans e) (k2.next e b) (by rw [gh_call] at dv; exact dv)⟩
    rw [gh_call]
    exact AVs.to (F := F) (F' := F.call L H2 E0 X0) rfl (AVs.of (hg _ _ _ _ _ (dv.mono (gh_mono k1 e2)) ev))
theorem ev_callN {sp : DSp} {n m : Nat} {gV : List V → List V → List V} {gD : List D → List D → List D} {ta tk : TA} {ds es : List D} {v : D} (h1 : ED K F ta δ ds) (h2 : ED K F tk δ es) (hn : ds.length = n) (hm : es.length = m)
    (hg : ∀ G vs zs ds es, DVs K G vs ds → DVs K G zs es → DVs K G (gV vs zs) (gD ds es)) (h : sp ((gD ds es).map SD.val) (fun d => d = v) X0) : EV K F (tCallN n m (spOf K sp) gV E0 ta tk) δ v :=
  we_callN gD hg (h1.wa ⟨ds, rfl, hn, h2.wa ⟨es, rfl, hm, h⟩⟩)
end
end DL

end
section
/-! sorted and set of rows of ints, over data; pop by place; an item by an open place -/
namespace DL
open PySem L2
variable {K : PySem.W.Frag} {F : Fr} {δ : List SD} {X : Cx}
abbrev tupI (ns : List Int) : D := .tup (ns.map D.int)
def below (a b : List Int) : Bool := (a.zip b).all fun p => decide (p.1 ≤ p.2)
theorem zipI : ∀ a b : List Int, List.zipWith (fun x y => D.tup [x, y]) (a.map D.int) (b.map D.int) = (a.zip b).map fun p => D.tup [.int p.1, .int p.2]
  | [], _ => by simp
  | _ :: _, [] => by simp
  | a :: as, b :: bs => by simp [zipI as bs]
theorem DVs.perm {G : Hp} {ys xs : List V} (p : ys.Perm xs) : ∀ {ds : List D}, DVs K G xs ds → ∃ es, es.Perm ds ∧ DVs K G ys es := by
  induction p with
  | nil =>
    intro ds h
    exact ⟨ds, .refl _, h⟩
  | cons x _ ih =>
    intro ds h
    cases h with
    | cons a r =>
      obtain ⟨es, h1, h2⟩ := ih r
      exact ⟨_ :: es, h1.cons _, .cons a h2⟩
  | swap x y l =>
    intro ds h
    cases h with
    | cons a r =>
      cases r with
      | cons b r => exact ⟨_, .swap .., .cons b (.cons a r)⟩
  | trans _ _ ih1 ih2 =>
    intro ds h
    obtain ⟨es, h1, h2⟩ := ih2 h
    obtain ⟨fs, h3, h4⟩ := ih1 h2
    exact ⟨fs, h3.trans h1, h4⟩
theorem perm_map {α β : Type} {f : α → β} {g : β → α} (hg : ∀ x, g (f x) = x) {es : List β} {l : List α} (p : es.Perm (l.map f)) : ∃ m : List α, es = m.map f ∧ m.Perm l := by
  refine ⟨es.map g, ?_, ?_⟩
  · have h : ∀ e ∈ es, f (g e) = e := fun e he => by
      obtain ⟨x, _, h⟩ := List.mem_map.mp (p.mem_iff.mp he)
      rw [← h, hg]
    rw [List.map_map]
    have e : es.map (f ∘ g) = es.map id := List.map_congr_left h
    rw [e, List.map_id]
  · have q := p.map g
    rw [List.map_map] at q
    have e : l.map (g ∘ f) = l := by
      have : (g ∘ f) = id := funext hg
      rw [this, List.map_id]
    rw [e] at q
    exact q
def unI : D → List Int
  | .tup l => l.map fun d => match d with
    | .int i => i
    | _ => 0
  | _ => []
theorem unI_tup (ns : List Int) : unI (tupI ns) = ns := by
  show (ns.map D.int).map _ = ns
  rw [List.map_map]
  have e : ns.map ((fun d => match d with | .int i => i | _ => 0) ∘ D.int) = ns.map id := List.map_congr_left fun x _ => rfl
  exact e.trans (List.map_id _)
theorem DV.tupI_inv {G H : Hp} (s : Sub G H) {v : V} {ns : List Int} (h : DV K G v (tupI ns)) : TupI K H v ns := by
  obtain ⟨a, xs, rfl, h1, h2⟩ := h.to_tup
  cases h2.ints
  exact ⟨a, rfl, s.t h1⟩
/-- sorted of a list of rows, all of d ints in [0, B) -/
def rSortR (K : PySem.W.Frag) : List V → Hp → VK → Prop := fun vs H Q => ∃ d B, 1 ≤ d ∧ rSortU K d B vs H Q
theorem call_sortR : CallR X (.builtin "sorted") (rSortR X.K) := by
  intro pins s σ H vs us Q I r h
  obtain ⟨d, B, hd, h⟩ := h
  exact cr_sortT hd pins s σ H vs us Q I r h
theorem rc_sortR {rows : List (List Int)} {d : Nat} {B : Int} {P : D → Prop} (hd : 1 ≤ d) (h64 : rows.length < 64) (hr : ∀ r ∈ rows, r.length = d ∧ TS.Bd B r)
    (q : ∀ ys : List (List Int), ys.Perm rows → ys.Pairwise (fun a b => TS.code B a ≤ TS.code B b) → P (.lst (ys.map tupI))) : RC K F (rSortR K) [.val (.lst (rows.map tupI))] P := fun L H vs k a Q c => by
  cases a with
  | cons a r =>
    cases r
    obtain ⟨p, xs, rfl, h1, h2⟩ := DV.to_lst a
    refine ⟨d, B, hd, p, xs, rfl, sqL (gh_sub _ _ h1), by rw [h2.length, List.length_map]; exact h64, fun x hx => ?_, fun ys n hp hw hn => ?_⟩
    · obtain ⟨i, hi⟩ := List.getElem?_of_mem hx
      obtain ⟨e, he, hv⟩ := h2.get' hi
      rw [List.getElem?_map] at he
      cases q : rows[i]? with
      | none => rw [q] at he; cases he
      | some ns =>
        rw [q] at he
        cases he
        exact ⟨ns, hv.tupI_inv gh_sub, hr ns (List.mem_of_getElem? q)⟩
    · obtain ⟨es, pe, hes⟩ := DVs.perm hp h2
      obtain ⟨ms, rfl, pm⟩ := perm_map unI_tup pe
      have pw : ms.Pairwise (fun a b => TS.code B a ≤ TS.code B b) := by
        have : ∀ {ys : List V} {ms : List (List Int)}, DVs K (gh F L H) ys (ms.map tupI) → ys.Pairwise (fun x y => ∀ n m, TupI K H x n → TupI K H y m → TS.code B n ≤ TS.code B m) → ms.Pairwise (fun a b => TS.code B a ≤ TS.code B b) := by
          intro ys ms h
          induction ms generalizing ys with
          | nil => exact fun _ => .nil
          | cons m ms ih =>
            cases h with
            | cons a r =>
              intro w
              cases w with
              | cons w1 w2 =>
                refine .cons (fun b hb => ?_) (ih r w2)
                obtain ⟨i, hi⟩ := List.getElem?_of_mem hb
                obtain ⟨v, g1, g2⟩ := r.get (d := tupI b) (i := i) (by rw [List.getElem?_map, hi]; rfl)
                exact w1 v (List.mem_of_getElem? g1) m b (a.tupI_inv gh_sub) (g2.tupI_inv gh_sub)
        exact this hes hw
      exact c _ _ _ (q ms pm pw) (.of_sub (.upd hn)) (k.new hn) (.lst (gh_new k hn) (hes.mono (gh_mono k (.of_sub (.upd hn)))))
theorem TS_nil {rows : List (List Int)} (h : rows = []) : rows.length < 64 := by rw [h]; decide
/-! ### an item at an open place -/
theorem getDI {ns : List Int} {i : Nat} (h : i < ns.length) : (ns.map D.int)[i]? = some (.int (ns.getD i 0)) := by
  rw [List.getElem?_map, List.getElem?_eq_getElem h, List.getD_eq_getElem?_getD, List.getElem?_eq_getElem h]
  rfl
theorem rv_ixTI {ns : List Int} {i : Nat} (h : i < ns.length) : RV K F (rIx K) (tupI ns) (.int (0 + (i : Int))) (.int (ns.getD i 0)) := by
  rw [Int.zero_add]
  exact rv_ixT (atI_nat (getDI h))
/-! ### the greatest -/
def mx : List Int → Int
  | [] => 0
  | [a] => a
  | a :: b :: l => max a (mx (b :: l))
theorem mx_mem : ∀ l : List Int, l ≠ [] → mx l ∈ l
  | [], h => absurd rfl h
  | [a], _ => List.mem_cons_self ..
  | a :: b :: l, _ => by
    rw [mx]
    have ih := mx_mem (b :: l) (by simp)
    rcases Int.le_total a (mx (b :: l)) with h | h
    · rw [Int.max_eq_right h]
      exact List.mem_cons_of_mem _ ih
    · rw [Int.max_eq_left h]
      exact List.mem_cons_self ..
theorem mx_le : ∀ (l : List Int) (x : Int), x ∈ l → x ≤ mx l
  | [], x, h => by cases h
  | [a], x, h => by
    rw [List.mem_singleton.mp h]
    exact Int.le_refl _
  | a :: b :: l, x, h => by
    rw [mx]
    rcases List.mem_cons.mp h with rfl | h
    · exact Int.le_max_left ..
    · exact Int.le_trans (mx_le (b :: l) x h) (Int.le_max_right ..)
theorem cv_maxM {α : Type} {xs : List α} {g : α → Int} (h : xs ≠ []) : CV K F (rMaxA K) [.lst (xs.map fun x => D.int (g x))] (.int (mx (xs.map g))) := by
  have e : (xs.map fun x => D.int (g x)) = (xs.map g).map D.int := by rw [List.map_map]; rfl
  rw [e]
  have h2 : xs.map g ≠ [] := by simpa using h
  refine rc_max h2 fun m hm hy => ?_
  have := mx_le _ m hm
  have := hy _ (mx_mem _ h2)
  rw [show m = mx (xs.map g) by omega]
end DL

end
section
/-! set(t), t a tuple of tuples of ints -/
namespace DLS
open PySem PySem.Spec PyProof.Rows L2
/-- the set that a call of the class begins with -/
abbrev newSet (w : World) : Obj := { cls := .type "set", dict := none, data := .set #[] 0 (.fresh 0 0 (!w.params.followText "set-order")) }
/-- what its filling gives -/
def Filled (P : Program) (w : World) (h0 : Heap) (S : Addr) (ks : List (Addr × List Int)) (h' : Heap) : Prop :=
  (∃ L es ep t, SetTR P w h' S L es ep t ∧ Got ks ks.length L) ∧ ∀ b o, h0.get? b = some o → h'.get? b = some o
section
variable {P : Program} {w : World} {A : Around} {E : Value → Shared → Prop}
/-- the body of __init__, at a tuple -/
theorem init_rowsT {l : Addr} {items : Array Value} (ks : List (Addr × List Int)) {h0 : Heap} {g : Array GenState} {d : Drawn} {tk : Nat} {os : OsState} (hh2 : A.in1.handled = none) (hl : h0.IsTuple l items)
    (hit : items.toList = ks.map fun p => Value.ref p.1) (hk : ∀ p ∈ ks, IsT P w h0 p.2 p.1) (hfew : ks.length < 64) (hu : A.in1.units < cLine) {R : PySem.Fin → Shared → Prop}
    (done : ∀ (h' : Heap) (tk' : Nat), Filled P w h0 h0.objs.size ks h' → R (.done (.ret .none)) ⟨h', g, d, tk', os⟩) :
    wpAny (model P w) A (Builtin.«set.__init__» ⟨[.ref h0.objs.size, .ref l], []⟩) R E ⟨h0.push (newSet w), g, d, tk, os⟩ := by
  have src := hl
  obtain ⟨⟨kc, kd, kx, ks'⟩, at0, e1, nl, e2⟩ := hl
  simp only at e1 e2
  subst e1
  subst e2
  have old : ∀ b o, h0.get? b = some o → (h0.push (newSet w)).get? b = some o := fun b o e => Heap.get?_push_of_some _ e
  have at1 := old _ _ at0
  have n1 := F.sub_tuple_set
  have n2 := F.sub_tuple_frozenset
  have n3 : (Value.type "tuple" == Value.type "dict") = false := by decide
  have there : (h0.push (newSet w)).get? h0.objs.size = some (newSet w) := Heap.get?_push_size _ rfl
  have below : l < h0.objs.size := Heap.lt_size at0
  have size1 : (h0.push (newSet w)).objs.size = h0.objs.size + 1 := Heap.size_push ..
  have apart : l ≠ (h0.push (newSet w)).objs.size := by
    rw [size1]
    exact Nat.ne_of_lt (Nat.lt_succ_of_lt below)
  have hits : items.size = ks.length := by
    rw [← Array.length_toList, hit, List.length_map]
  have nth : ∀ (i : Nat) (v : Value), items[i]? = some v → ∃ p, ks[i]? = some p ∧ v = .ref p.1 := fun i v hv => by
    rw [← Array.getElem?_toList, hit, List.getElem?_map] at hv
    cases q : ks[i]? with
    | none =>
      rw [q] at hv
      cases hv
    | some p =>
      rw [q] at hv
      exact ⟨p, rfl, (Option.some.inj hv).symm⟩
  have free : ∀ b, h0.objs.size ≤ b → h0.get? b = none := fun b hb => by
    cases q : h0.get? b with
    | none => rfl
    | some o => exact absurd (Heap.lt_size q) (Nat.not_lt.mpr hb)
  unfold Builtin.«set.__init__» noKeywords Builtin.Frozenset.updateFrom
  generalize hit2 : pyIter = walk
  wp_walk
  subst hit2
  refine wpAny_pyIter_tuple ⟨_, at1, rfl, nl, rfl⟩ ?_
  refine wpAny_bind (wpAny_runValue ?_)
  have off : h0.objs.size ∉ [(h0.push (newSet w)).objs.size, l] := by
    rw [size1]
    simp only [List.mem_cons, List.not_mem_nil, or_false, not_or]
    exact ⟨Nat.ne_of_lt (Nat.lt_succ_self _), Nat.ne_of_gt below⟩
  refine set_update_tups ((Walks.tuple hh2 _ l apart items).toS) h0.objs.size off ks hits hfew nth h0 hk (free _ (Nat.le_refl _)) (fun b hb => free b ?_) hu (items.size - 0) 0 ⟨(h0.push (newSet w)).push { cls := .type "tuple_iterator", data := .fields #[.ref l, .int 0 0] }, g, d, tk, os⟩ (by omega) (Nat.zero_le _)
    ⟨⟨_, Heap.get?_push_size _ rfl, rfl, rfl⟩, src.push _ |>.push _⟩ (fun b o e => Heap.get?_push_of_some _ (old b o e)) ⟨[], #[], 0, _, setTR_fresh (Heap.get?_push_of_some _ there), Got.zero ks⟩ ?_
  · rw [List.mem_singleton.mp hb, size1]
    exact Nat.le_succ _
  · rintro ⟨h', g2, d', tk', os'⟩ L es ep t mv full got kept
    have q1 : g2 = g := mv.gens
    have q2 : d' = d := mv.drawn
    have q3 : os' = os := mv.os
    subst q1 q2 q3
    refine wpAny_pure ?_
    rw [hits] at got
    exact wpAny_pure (done h' tk' ⟨⟨L, es, ep, t, full, got⟩, kept⟩)
/-- set(t) -/
theorem call_set_rowsT {l : Addr} {items : Array Value} {s : Shared} (ks : List (Addr × List Int)) {Q : Value → Shared → Prop} (hh : A.handled = none) (hl : s.heap.IsTuple l items) (hit : items.toList = ks.map fun p => Value.ref p.1)
    (hk : ∀ p ∈ ks, IsT P w s.heap p.2 p.1) (hfew : ks.length < 64) (hu : A.units + 8 < cLine)
    (done : ∀ (h' : Heap) (tk : Nat), Filled P w s.heap s.heap.objs.size ks h' → Q (.ref s.heap.objs.size) { s with heap := h', toks := tk }) : wpAny (model P w) A (call (.type "set") [.ref l]) Q E s := by
  obtain ⟨hp, g, d, tk, os⟩ := s
  have T := F.called_set
  obtain ⟨_, _, m1⟩ := T.mro
  have m2 := T.made
  have m3 := T.sub
  have m4 := T.notType
  have m5 := T.canCreate
  have m6 := F.typeCall_set_1 (.ref l)
  refine wpAny_call (codeAny_of_tree ?_)
  show wpAny _ _ (callAny (.type "set") _) _ _ _
  refine wpAny_pure ⟨Code.quiet_builtin _ (by decide +kernel), codeAny_builtin F.entry_type_call ?_⟩
  rw [Around.under_plain (weight_type_call_type "set" [.ref l] []) rfl]
  repeat (any_goals (first | assumption | wp_step))
  refine codeAny_mono (code_set_led1 (.ref l) (E := E) (Q₁ := fun o s1 => o = .ref hp.objs.size ∧ s1 = ⟨hp.push (newSet w), g, d, tk, os⟩) ⟨rfl, rfl⟩) ?_
  intro r s1 hr
  rcases r with e | fl
  · exact hr
  rcases fl with _ | _ | _ | o
  · exact hr.elim
  · exact hr.elim
  · exact hr.elim
  obtain ⟨rfl, rfl⟩ := hr
  have ty : Shared.TypeIs ⟨hp.push (newSet w), g, d, tk, os⟩ (.ref hp.objs.size) "set" := ⟨_, Heap.get?_push_size _ rfl, rfl⟩
  have i1 := T.init.lookup
  have i2 := T.init.bind (.ref hp.objs.size)
  repeat (any_goals (first | assumption | wp_step))
  refine codeAny_mono (codeAny_call_builtin (R := wants (fun r s2 => r = .none ∧ ∃ h' tk', s2 = ⟨h', g, d, tk', os⟩ ∧ Filled P w hp hp.objs.size ks h') E) T.init.plain F.entry_set_init (check_set_init_1 ty ?_)) ?_
  · refine init_rowsT ks ?_ hl hit hk hfew ?_ fun h' tk' f => ⟨rfl, h', tk', rfl, f⟩
    · simp [hh]
    · first | (show A.units + _ < cLine; omega) | (simp [Around.in1]; omega)
  · intro r s2 hr
    rcases r with e | fl
    · exact hr
    rcases fl with _ | _ | _ | o
    · exact hr.elim
    · exact hr.elim
    · exact hr.elim
    obtain ⟨rfl, h', tk', rfl, f⟩ := hr
    repeat (any_goals (first | assumption | wp_step))
    exact done h' tk' f
end
end DLS

end
section
/-! sorted and set of rows of ints, directly -/
namespace DL
open PySem L2
def lle : List Int → List Int → Bool
  | [], _ => true
  | _ :: _, [] => false
  | a :: r, b :: q => decide (a < b) || (decide (a = b) && lle r q)
theorem lle_trans : ∀ a b c : List Int, lle a b = true → lle b c = true → lle a c = true
  | [], _, _, _, _ => rfl
  | _ :: _, [], _, h, _ => by simp [lle] at h
  | _ :: _, _ :: _, [], _, h => by simp [lle] at h
  | a :: r, b :: q, c :: p, h, k => by
    simp [lle] at h k ⊢
    rcases h with h | ⟨h, h'⟩ <;> rcases k with k | ⟨k, k'⟩
    · left; omega
    · left; omega
    · left; omega
    · right; exact ⟨by omega, lle_trans r q p h' k'⟩
theorem lle_total : ∀ a b : List Int, lle a b || lle b a
  | [], _ => rfl
  | _ :: _, [] => rfl
  | a :: r, b :: q => by
    have := lle_total r q
    simp [lle] at this ⊢
    rcases Int.lt_trichotomy a b with h | h | h
    · left; left; exact h
    · subst h
      rcases this with h | h
      · left; right; exact ⟨rfl, h⟩
      · right; right; exact ⟨rfl, h⟩
    · right; left; exact h
theorem lle_anti : ∀ a b : List Int, lle a b = true → lle b a = true → a = b
  | [], [], _, _ => rfl
  | [], _ :: _, _, h => by simp [lle] at h
  | _ :: _, [], h, _ => by simp [lle] at h
  | a :: r, b :: q, h, k => by
    simp [lle] at h k
    rcases h with h | ⟨h, h'⟩ <;> rcases k with k | ⟨k, k'⟩
    · omega
    · omega
    · omega
    · rw [h, lle_anti r q h' k']
theorem lle_of_code {B : Int} : ∀ a b : List Int, a.length = b.length → TS.Bd B a → TS.Bd B b → TS.code B a ≤ TS.code B b → lle a b = true
  | [], _, _, _, _, _ => rfl
  | _ :: _, [], h, _, _, _ => by simp at h
  | a :: r, b :: q, h, h1, h2, h3 => by
    have hl : r.length = q.length := by simpa using h
    simp [lle]
    rcases Int.lt_trichotomy a b with k | k | k
    · exact .inl k
    · subst k
      refine .inr ⟨rfl, lle_of_code r q hl h1.tail h2.tail ?_⟩
      have := (TS.code_same (B := B) (d := a) hl.symm : TS.code B (a :: q) < TS.code B (a :: r) ↔ _)
      omega
    · have := TS.code_lt (B := B) hl.symm h2.tail h1.tail k
      omega
theorem sorted_unique {α : Type} {r : α → α → Prop} (anti : ∀ a b, r a b → r b a → a = b) : ∀ l1 l2 : List α, l1.Perm l2 → l1.Pairwise r → l2.Pairwise r → l1 = l2
  | [], l2, p, _, _ => (List.nil_perm.mp p).symm
  | a :: l1, [], p, _, _ => by simpa using p.length_eq
  | a :: l1, b :: l2, p, s, t => by
    have e : a = b := by
      rcases List.mem_cons.mp (p.mem_iff.mp (List.mem_cons_self ..)) with h | h
      · exact h
      · rcases List.mem_cons.mp (p.mem_iff.mpr (List.mem_cons_self ..)) with k | k
        · exact k.symm
        · exact anti a b ((List.pairwise_cons.mp s).1 b k) ((List.pairwise_cons.mp t).1 a h)
    subst e
    rw [sorted_unique anti l1 l2 (List.perm_cons a |>.mp p) (List.pairwise_cons.mp s).2 (List.pairwise_cons.mp t).2]
/-- sorted(rows) -/
def srt (l : List (List Int)) : List (List Int) := l.mergeSort lle
theorem srt_perm (l : List (List Int)) : (srt l).Perm l := List.mergeSort_perm l lle
theorem srt_pw (l : List (List Int)) : (srt l).Pairwise (fun a b => lle a b = true) := List.pairwise_mergeSort (lle_trans) (lle_total) l
theorem srt_eq {l ys : List (List Int)} (p : ys.Perm l) (s : ys.Pairwise (fun a b => lle a b = true)) : ys = srt l :=
  sorted_unique lle_anti _ _ (p.trans (srt_perm l).symm) s (srt_pw l)
def dd : List (List Int) → List (List Int)
  | [] => []
  | a :: l => if a ∈ l then dd l else a :: dd l
theorem mem_dd : ∀ {l : List (List Int)} {a : List Int}, a ∈ dd l ↔ a ∈ l
  | [], _ => Iff.rfl
  | b :: l, a => by
    unfold dd
    split
    · rename_i h
      rw [mem_dd (l := l), List.mem_cons]
      constructor
      · exact .inr
      · rintro (rfl | k)
        · exact h
        · exact k
    · rw [List.mem_cons, List.mem_cons, mem_dd (l := l)]
theorem dd_nodup : ∀ l : List (List Int), (dd l).Nodup
  | [] => .nil
  | b :: l => by
    unfold dd
    split
    · exact dd_nodup l
    · rename_i h
      exact List.nodup_cons.mpr ⟨fun z => h (mem_dd.mp z), dd_nodup l⟩
theorem dd_len : ∀ l : List (List Int), (dd l).length ≤ l.length
  | [] => Nat.le_refl _
  | b :: l => by
    have := dd_len l
    unfold dd
    split
    · exact Nat.le_succ_of_le this
    · simpa using this
/-- sorted(set(rows)) -/
def sset (l : List (List Int)) : List (List Int) := srt (dd l)
theorem mem_sset {l : List (List Int)} {a : List Int} : a ∈ sset l ↔ a ∈ l := by
  unfold sset
  rw [(srt_perm _).mem_iff, mem_dd]
theorem mem_srt {l : List (List Int)} {a : List Int} : a ∈ srt l ↔ a ∈ l := (srt_perm _).mem_iff
theorem sset_nodup (l : List (List Int)) : (sset l).Nodup := (srt_perm _).nodup_iff.mpr (dd_nodup l)
theorem sset_pw (l : List (List Int)) : (sset l).Pairwise (fun a b => lle a b = true) := srt_pw _
theorem sset_len (l : List (List Int)) : (sset l).length ≤ l.length := by
  rw [sset, (srt_perm _).length_eq]
  exact dd_len l
theorem srt_len (l : List (List Int)) : (srt l).length = l.length := (srt_perm _).length_eq
theorem sset_eq {l ys : List (List Int)} (n : ys.Nodup) (m : ∀ a, a ∈ ys ↔ a ∈ l) (s : ys.Pairwise (fun a b => lle a b = true)) : ys = sset l :=
  srt_eq ((List.perm_ext_iff_of_nodup n (dd_nodup l)).mpr fun a => (m a).trans mem_dd.symm) s
/-- all of a width, below a bound -/
def rowsOk (d : Nat) (B : Int) (rows : List (List Int)) : Prop := 1 ≤ d ∧ rows.length < 64 ∧ ∀ r ∈ rows, r.length = d ∧ TS.Bd B r
section
variable {P : Program} {w : World} {K : PySem.W.Frag} {X : Cx} {F : Fr} {δ : List SD}
/-- set(t), t a tuple -/
def rSetOfTT (K : PySem.W.Frag) (P : Program) (w : World) : List V → Hp → VK → Prop := fun xs H Q => ∃ (l : Addr) (ks : List (Addr × List Int)), xs = [V.ref l] ∧ SqT K H l (ks.map fun p => V.ref p.1) ∧ (∀ p ∈ ks, SqT K H p.1 (p.2.map V.int)) ∧ ks.length < 64 ∧
  ∀ a L, H a = none → (∀ p ∈ L, p ∈ ks) → (∀ p ∈ ks, p.2 ∈ L.map (·.2)) → Q (.ref a) (upd H a (SetTO P w a L))
theorem cr_setOfTT (hc : X.calm = true) (hu : X.A.units + 64 < cLine) : CallR X (.type "set") (rSetOfTT X.K X.prog X.w) := by
  intro pins s σ H xs us Q I r h
  obtain ⟨l, ks, rfl, hl, hk, hf, q⟩ := h
  rw [Vals.ref1 r]
  obtain ⟨its, rv, hz, hd⟩ := I.tuple hl
  have hn : H s.heap.objs.size = none := I.hok.fresh (Nat.le_refl _)
  obtain ⟨o, ho, hcl, n, hdd⟩ := hz
  refine DLS.call_set_rowsT (P := X.prog) (w := X.w) (items := its.toArray) ks (I.ok.hd hc) ⟨o, ho, hcl, n, hdd⟩ (by simpa using refs_of_vals rv) (fun p hp => I.isT (hk p hp)) hf (by omega) fun h' tk f => ?_
  obtain ⟨⟨L, es, ep, t, R, g⟩, k⟩ := f
  refine ⟨.ref s.heap.objs.size, upd H s.heap.objs.size (SetTO X.prog X.w s.heap.objs.size L), I.laid (t' := tk) k (Nat.le_refl _) (setTO_new R.t0), rfl, q _ L hn (fun p hp => ?_) fun p hp => ?_⟩
  · exact List.mem_of_mem_take (g.sub p hp)
  · exact g.all p (by rw [List.take_length]; exact hp)
def rSetA (K : PySem.W.Frag) (P : Program) (w : World) : List V → Hp → VK → Prop := fun xs H Q => rSetOfT K P w xs H Q ∨ rSetOfTT K P w xs H Q
theorem call_setA (hc : X.calm = true) (hu : X.A.units + 64 < cLine) : CallR X (.type "set") (rSetA X.K X.prog X.w) := CallR.or (cr_setOfT hc hu) (cr_setOfTT hc hu)
def rSortedA (K : PySem.W.Frag) (P : Program) (w : World) : List V → Hp → VK → Prop := fun xs H Q => rSortR K xs H Q ∨ rSortedT K P w xs H Q
theorem call_sortedA (hc : X.calm = true) : CallR X (.builtin "sorted") (rSortedA X.K X.prog X.w) := CallR.or call_sortR (cr_sortedT hc)
theorem cv_sortR {rows : List (List Int)} {d : Nat} {B : Int} (h : rowsOk d B rows) : CV K F (rSortedA K P w) [.lst (rows.map tupI)] (.lst ((srt rows).map tupI)) := fun L H vs k a Q c =>
  .inl (rc_sortR (F := F) h.1 h.2.1 h.2.2 (P := fun d => d = .lst ((srt rows).map tupI)) (fun ys p s => by
    have e : ys = srt rows := srt_eq p (List.Pairwise.imp_of_mem (fun {a b} ha hb hab => by
      have ha := h.2.2 a (p.mem_iff.mp ha)
      have hb := h.2.2 b (p.mem_iff.mp hb)
      exact lle_of_code a b (ha.1.trans hb.1.symm) ha.2 hb.2 hab) s)
    rw [e]) L H vs k a Q c)
theorem DVs.keyed {G : Hp} : ∀ {xs : List V} {rows : List (List Int)}, DVs K G xs (rows.map tupI) → ∃ ks : List (Addr × List Int), xs = ks.map (fun p => V.ref p.1) ∧ rows = ks.map (·.2) ∧ ∀ p ∈ ks, SqT K G p.1 (p.2.map V.int)
  | _, [], .nil => ⟨[], rfl, rfl, fun p hp => by cases hp⟩
  | _, ns :: rows, .cons a r => by
    obtain ⟨ks, h1, h2, h3⟩ := DVs.keyed r
    obtain ⟨x, xs, rfl, h4, h5⟩ := a.to_tup
    cases h5.ints
    refine ⟨(x, ns) :: ks, by rw [h1]; rfl, by rw [h2]; rfl, fun p hp => ?_⟩
    rcases List.mem_cons.mp hp with rfl | hp
    · exact h4
    · exact h3 p hp
theorem DVs.unkeyed {G : Hp} : ∀ {ks : List (Addr × List Int)}, (∀ p ∈ ks, SqT K G p.1 (p.2.map V.int)) → DVs K G (ks.map fun p => V.ref p.1) ((ks.map (·.2)).map tupI)
  | [], _ => .nil
  | p :: ks, h => .cons (.tup (h p (List.mem_cons_self ..)) (DVs.of_ints _)) (DVs.unkeyed fun q hq => h q (List.mem_cons_of_mem _ hq))
/-- sorted(set(xs)) -/
theorem we_sortset {t : TE} {Q : D → Prop} (h : WE K F t δ fun x => ∃ rows d B, (x = .lst (rows.map tupI) ∨ x = .tup (rows.map tupI)) ∧ rowsOk d B rows ∧ Q (.lst ((sset rows).map tupI))) :
    WE K F (tCB (rSortedA K P w) (tCons (tCB (rSetA K P w) (tCons t tNil)) tNil)) δ Q := fun L σ H k x Q c =>
  h L σ H k x _ fun v H1 dd p e1 k1 dv => by
    obtain ⟨rows, d, B, hx, ⟨hd, h64, hr⟩, q⟩ := p
    have go : ∀ (ks : List (Addr × List Int)), rows = ks.map (·.2) → (∀ p ∈ ks, SqT K (gh F L H1) p.1 (p.2.map V.int)) → ∀ a L', H1 a = none → (∀ p ∈ L', p ∈ ks) → (∀ p ∈ ks, p.2 ∈ L'.map (·.2)) → (tNil σ (upd H1 a (SetTO P w a L')) fun vs H => (rSortedA K P w) (.ref a :: vs) H Q) := by
      intro ks hks hk a L' ha hs hm
      refine .inr ⟨a, L', d, B, rfl, upd_same, fun p hp => (Sub.upd ha).t (gh_sub.t (hk p (hs p hp))), hd, fun p hp => hr _ (by rw [hks]; exact List.mem_map.mpr ⟨p, hs p hp, rfl⟩), fun L2 p pm nd few pw hp => ?_⟩
      have k2 := k1.new (o := SetTO P w a L') ha
      have k3 := k2.new (o := .lst (L2.map fun q => V.ref q.1)) hp
      have e : L2.map (·.2) = sset rows := by
        refine sset_eq nd (fun r => ?_) (List.pairwise_map.mpr (List.Pairwise.imp_of_mem (fun {x y} hx hy hxy => ?_) pw))
        · rw [(pm.map (·.2)).mem_iff, hks]
          constructor
          · intro z
            obtain ⟨p, h1, h2⟩ := List.mem_map.mp z
            exact List.mem_map.mpr ⟨p, hs p h1, h2⟩
          · intro z
            obtain ⟨p, h1, h2⟩ := List.mem_map.mp z
            rw [← h2]
            exact hm p h1
        · have hx := hr x.2 (by rw [hks]; exact List.mem_map.mpr ⟨x, hs x (pm.mem_iff.mp hx), rfl⟩)
          have hy := hr y.2 (by rw [hks]; exact List.mem_map.mpr ⟨y, hs y (pm.mem_iff.mp hy), rfl⟩)
          exact lle_of_code _ _ (hx.1.trans hy.1.symm) hx.2 hy.2 hxy
      refine c _ _ _ q ((e1.trans (.of_sub (.upd ha))).trans (.of_sub (.upd hp))) k3 (.lst (gh_new k2 hp) ?_)
      rw [← e]
      refine DVs.unkeyed fun p hp' => ?_
      have hq := hk p (hs p (pm.mem_iff.mp hp'))
      exact (gh_mono k2 (.of_sub (.upd hp))).t ((gh_mono k1 (.of_sub (.upd ha))).t hq)
    rcases hx with rfl | rfl
    · obtain ⟨a, xs, rfl, h1, h2⟩ := dv.to_lst
      obtain ⟨ks, rfl, hks, hk⟩ := h2.keyed
      exact .inl ⟨a, ks, rfl, sqL (gh_sub _ _ h1), fun p hp => gh_sub.t (hk p hp), by rw [hks, List.length_map] at h64; exact h64, fun a' L' ha hs hm => go ks hks hk a' L' ha hs hm⟩
    · obtain ⟨a, xs, rfl, h1, h2⟩ := dv.to_tup
      obtain ⟨ks, rfl, hks, hk⟩ := h2.keyed
      exact .inr ⟨a, ks, rfl, gh_sub.t h1, fun p hp => gh_sub.t (hk p hp), by rw [hks, List.length_map] at h64; exact h64, fun a' L' ha hs hm => go ks hks hk a' L' ha hs hm⟩
theorem ev_sortsetL {t : TE} {rows : List (List Int)} {d : Nat} {B : Int} (h : EV K F t δ (.lst (rows.map tupI))) (r : rowsOk d B rows) : EV K F (tCB (rSortedA K P w) (tCons (tCB (rSetA K P w) (tCons t tNil)) tNil)) δ (.lst ((sset rows).map tupI)) :=
  we_sortset (EV.we h ⟨rows, d, B, .inl rfl, r, rfl⟩)
theorem ev_sortsetT {t : TE} {rows : List (List Int)} {d : Nat} {B : Int} (h : EV K F t δ (.tup (rows.map tupI))) (r : rowsOk d B rows) : EV K F (tCB (rSortedA K P w) (tCons (tCB (rSetA K P w) (tCons t tNil)) tNil)) δ (.lst ((sset rows).map tupI)) :=
  we_sortset (EV.we h ⟨rows, d, B, .inr rfl, r, rfl⟩)
end
end DL

end
section
/-! two lists of one's own at once; pop by place; tuple * 1 -/
namespace DLS
open PySem PySem.Spec PyProof.Rows L2
theorem tuple_mulOne (l : Addr) (items : Array Value) (n : Nat) (dd : Option Addr) (sl : Array (Option Value)) (u : Tok) :
    Meets (Builtin.«tuple.__mul__» ⟨[.ref l, .int 1 u], []⟩) (fun _ R s => s.heap.get? l = some { cls := .type "tuple", dict := dd, data := .seq items n, slots := sl } ∧ R (.ok (.ret (Value.ref l))) s) :=
  .of_wp fun prog w A R s h => by
    obtain ⟨hp, g, d, tk, os⟩ := s
    obtain ⟨hl, h⟩ := h
    have f1 := AutoSeq1.idx_int
    have c0 : (decide ((1 : Int) < -(2 ^ 63)) || decide ((1 : Int) ≥ 2 ^ 63)) = false := by decide
    have c1 : (items.isEmpty || (1 : Int) == 1) = true := by simp
    wp_walk using wpAny_loadPart' hl
    repeat (first
      | (refine wpAny_ite_false (decide_eq_false (by rw [c0]; exact Bool.false_ne_true)) ?_; wp_walk using wpAny_loadPart' hl)
      | (refine wpAny_ite_true (decide_eq_true (by rw [c1])) ?_; wp_walk using wpAny_loadPart' hl))
    exact ⟨_, rfl, h⟩
def rRepT1 (K : PySem.W.Frag) : R2 := fun x y H Q => ∃ l xs, x = .ref l ∧ y = .int 1 ∧ SqT K H l xs ∧ Q (.ref l) H
variable {X : Cx}
theorem op_repT1 : OpR X (binaryOp .Mult) (rRepT1 X.K) := by
  intro pins s σ H x y v u Q I rx ry h
  obtain ⟨l, xs, rfl, rfl, hT, q⟩ := h
  cases rx
  obtain ⟨t, rfl⟩ := ry
  obtain ⟨its, r, ⟨⟨cls, dd, data, sl⟩, ho, hc, n, hd⟩, hs⟩ := I.tuple hT
  simp only at hc hd
  subst hc hd
  exact wpAny_binaryOp_repeat_ref (T := "tuple") (U := "int") (by decide) ⟨_, ho, rfl⟩ (fun s' => typeIs_int s' 1 t) noFill_tuple_mul F.fills_int_mul F.slot_int_rmul repeat_tuple F.slot_int_index.lookup
    (call_meets F.slot_int_rmul (typeIs_int s 1 t) F.entry_int_rmul (F.args_int_rmul_2 _ _) (int_rmul_tuple 1 t l its.toArray n dd sl)
      ⟨ho, rfl, ⟨_, ho, rfl⟩, call_meets F.slot_tuple_mul ⟨_, ho, rfl⟩ F.entry_tuple_mul (F.args_tuple_mul_2 _ _) (tuple_mulOne l its.toArray n dd sl t) ⟨ho, .ref l, H, I, rfl, q⟩⟩)
end DLS
namespace DL
open PySem L2
theorem DVs.erase {K : PySem.W.Frag} {G : Hp} : ∀ {vs : List V} {ds : List D}, DVs K G vs ds → ∀ n, DVs K G (vs.eraseIdx n) (ds.eraseIdx n)
  | _, _, .nil, _ => .nil
  | _, _, .cons _ r, 0 => r
  | _, _, .cons h r, n + 1 => .cons h (DVs.erase r n)
variable {K : PySem.W.Frag} {F : Fr} {δ : List SD} {X : Cx} {C : Cn}
def rMulT (K : PySem.W.Frag) : R2 := fun x y H Q => rRepT K x y H Q ∨ DLS.rRepT1 K x y H Q
theorem op_mulT : OpR X (binaryOp .Mult) (rMulT X.K) := OpR.or op_repT DLS.op_repT1
theorem rv_mulT {ds : List D} {n : Int} (h0 : 1 ≤ n) (h1 : n ≤ 1000) (hd : ds ≠ []) (hl : ds.length ≤ 1000) : RV K F (rMulT K) (.tup ds) (.int n) (.tup (List.replicate n.toNat ds).flatten) := fun L H v u k x y Q c => by
  obtain ⟨p, xs, rfl, h2, h3⟩ := x.to_tup
  cases y
  by_cases e : n = 1
  · subst e
    refine .inr ⟨p, xs, rfl, rfl, gh_sub.t h2, c _ _ _ rfl (Ext.refl _ _) k ?_⟩
    have : (List.replicate (1 : Int).toNat ds).flatten = ds := by simp
    rw [this]
    exact x
  · refine .inl ⟨p, n, xs, rfl, rfl, gh_sub.t h2, fun z => hd ?_, by omega, h1, by rw [h3.length]; exact hl, fun m hm => ?_⟩
    · have := h3.length
      rw [z] at this
      exact List.eq_nil_of_length_eq_zero this.symm
    · exact c _ _ _ rfl (.of_sub (.upd hm)) (k.new hm) (.tup (sqT (gh_new k hm)) ((h3.flat _).mono (gh_mono k (.of_sub (.upd hm)))))
/-- a, b = new list, new list -/
theorem ws_parOwn {i j : Nat} {ta tb : TE} (hij : i ≠ j) (h : WN K F ta δ fun ds => WN K F tb δ fun es => C.nx ((δ.set i (.own (.lst ds))).set j (.own (.lst es)))) : WS K F (tPar i j (tCons ta (tCons tb tNil))) δ C := fun G0 E L σ H k x s e =>
  h L σ H k x _ fun p xs H1 ds pd hp e1 k1 hn hH dv sb => by
    have x1 : EnvOk K F (p :: L) H1 σ δ := x.to sb fun q hq => ⟨List.mem_cons_of_mem _ hq, k.keepL e1 q hq⟩
    refine pd (p :: L) σ H1 k1 x1 _ fun p2 xs2 H2 es pe hp2 e2 k2 hn2 hH2 dv2 sb2 => ?_
    have hHp : H2 p = some (.lst xs) := (k1.keepL e2 p (List.mem_cons_self ..)).trans hH
    have x2 : EnvOk K F (p2 :: p :: L) H2 σ δ := x1.to sb2 fun q hq => ⟨List.mem_cons_of_mem _ hq, k1.keepL e2 q hq⟩
    have x3 := x2.setOwn (i := i) (p := p) (List.mem_cons_of_mem _ (List.mem_cons_self ..)) (fun j u hj => x.fresh hn j u hj) (.lst hHp (dv.mono sb2))
    have fr2 : p2 ∉ p :: L := hn2
    have x4 := x3.setOwn (i := j) (p := p2) (List.mem_cons_self ..) (fun m u hm he => by
      by_cases z : i = m
      · subst z
        have hl : i < σ.length := by
          have := get_set_lt hm
          exact Nat.lt_of_lt_of_le this x.len
        rw [List.getElem?_set_self hl] at he
        cases he
        exact fr2 (List.mem_cons_self ..)
      · rw [List.getElem?_set_ne z] at hm he
        exact x1.fresh hn2 m u hm he) (.lst hH2 dv2)
    exact ⟨_, _, rfl, e.nx _ _ H2 _ pe k2 x4 (s.trans (sb.trans sb2))⟩
theorem OkH.before {L : List Addr} {H H1 : Hp} {a : Addr} (k1 : OkH K F L H1) (e1 : Ext F.b H H1) (ha : H1 a = none) : H a = none := by
  cases q : H a with
  | none => rfl
  | some o =>
    by_cases z : F.b = some a
    · exact absurd ha (k1.bdom z)
    · rw [e1 a o z q] at ha
      cases ha
/-- list(xs), one's own -/
theorem wn_listA {te : TE} {P : List D → Prop} (h : WE K F te δ fun d => ∃ ds, (d = .lst ds ∨ d = .tup ds) ∧ P ds) : WN K F (tCB (rListA K) (tCons te tNil)) δ P := fun L σ H k x Q c =>
  h L σ H k x _ fun v H1 d p e1 k1 dv => by
    obtain ⟨ds, hd, p⟩ := p
    have fin : ∀ (xs : List V), DVs K (gh F L H1) xs ds → ∀ a, H1 a = none → Q (.ref a) (upd H1 a (.lst xs)) := fun xs dv a ha =>
      c a xs _ ds p (k1.before e1 ha) (e1.trans (.of_sub (.upd ha))) (k1.newL ha) (k1.notL ha) upd_same (dv.mono (gh_newL ha)) ((gh_mono k e1).trans (gh_newL ha))
    rcases hd with rfl | rfl
    · obtain ⟨a, xs, rfl, h1, h2⟩ := dv.to_lst
      exact ⟨a, xs, rfl, .inl (sqL (gh_sub _ _ h1)), fun n hn => fin xs h2 n hn⟩
    · obtain ⟨a, xs, rfl, h1, h2⟩ := dv.to_tup
      exact ⟨a, xs, rfl, .inr (gh_sub.t h1), fun n hn => fin xs h2 n hn⟩
theorem we_peekL {i : Nat} {ds : List D} {te : TE} {P : D → Prop} (hi : δ[i]? = some (SD.own (.lst ds))) (h : WE K F te (δ.set i (.val (.lst ds))) fun d => d.small ∧ P d) : WE K F te δ P := we_peek hi h
theorem wt_peekL {i : Nat} {ds : List D} {te : TT} {P : Bool → Prop} (hi : δ[i]? = some (SD.own (.lst ds))) (h : WT K F te (δ.set i (.val (.lst ds))) P) : WT K F te δ P := wt_peek hi h
theorem ev_peekL {i : Nat} {ds : List D} {te : TE} {v : D} (hi : δ[i]? = some (SD.own (.lst ds))) (h : EV K F te (δ.set i (.val (.lst ds))) v) (hs : v.small) : EV K F te δ v := ev_peek hi h hs
theorem et_peekL {i : Nat} {ds : List D} {tt : TT} {b : Bool} (hi : δ[i]? = some (SD.own (.lst ds))) (h : ET K F tt (δ.set i (.val (.lst ds))) b) : ET K F tt δ b := et_peek hi h
/-- xs.append(ys.pop(k)), both one's own -/
theorem ws_appPop {i j : Nat} {te : TE} {ds es : List D} (hij : i ≠ j) (hi : δ[i]? = some (SD.own (.lst ds))) (hj : δ[j]? = some (SD.own (.lst es))) (hl : ds.length ≤ 100000) (hl2 : es.length ≤ 100000)
    (h : WE K F te δ fun d => ∃ (n : Nat) (y : D), d = .int (n : Int) ∧ es[n]? = some y ∧ C.nx ((δ.set j (.own (.lst (es.eraseIdx n)))).set i (.own (.lst (ds ++ [y]))))) :
    WS K F (tDrop (tBM K "list" rAppend (tVar i) (tCons (tBM K "list" rPopAt (tVar j) (tCons te tNil)) tNil))) δ C := fun G0 E L σ H k x s e => by
  obtain ⟨p, h1, h2, h3⟩ := x.owns i _ hi
  obtain ⟨p', h1', h2', h3'⟩ := x.owns j _ hj
  have hne : p ≠ p' := fun z => hij (x.dist i j _ _ p hi hj h1 (by rw [z]; exact h1'))
  cases h3 with
  | @lst xp _ hH hd =>
  cases h3' with
  | @lst xq _ hH' hd' =>
    refine ⟨.ref p, h1, .inl ⟨rfl, _, .inl (.inl hH)⟩, ?_⟩
    refine ⟨.ref p', h1', .inl ⟨rfl, _, .inl (.inl hH')⟩, ?_⟩
    refine h L σ H k x _ fun v H1 d pd e1 k1 dv => ?_
    obtain ⟨n, y, rfl, hy, pn⟩ := pd
    cases dv.to_int
    have gH := (k.keepL e1 p h2).trans hH
    have gH' := (k.keepL e1 p' h2').trans hH'
    have hd1 := hd.mono (gh_mono k e1)
    have hd1' := hd'.mono (gh_mono k e1)
    obtain ⟨vy, hvy, dy⟩ := hd1'.get hy
    have hn := (List.getElem?_eq_some_iff.mp hvy).1
    have hlen : es.length = _ := hd1'.length.symm
    have hn2 : n < es.length := by rw [hlen]; exact hn
    refine ⟨p', _, (n : Int), n, vy, rfl, rfl, gH', by omega, by omega, ?_, hvy, ?_⟩
    · unfold seqIndex?
      simp
      omega
    · have x1 := (x.next k e1).updOwn (ho := .lst (xq.eraseIdx n)) hj h1' h2' (.lst (ds := es.eraseIdx n) upd_same (DVs.erase hd1' n))
      have k2 := k1.own (o := .lst (xq.eraseIdx n)) h2'
      have gH2 : (upd H1 p' (.lst (xq.eraseIdx n))) p = some (.lst xp) := (upd_ne hne).trans gH
      refine ⟨p, _, vy, rfl, rfl, gH2, Nat.lt_of_le_of_lt (by rw [hd.length]; exact hl) (by decide), ?_⟩
      have hi2 : (δ.set j (SD.own (.lst (es.eraseIdx n))))[i]? = some (SD.own (.lst ds)) := by rw [List.getElem?_set_ne (Ne.symm hij)]; exact hi
      refine e.nx L σ _ _ pn (k2.own h2) (x1.updOwn hi2 h1 h2 (.lst upd_same ?_)) ?_
      · rw [gh_own h2']
        exact hd1.append (.cons dy .nil)
      · rw [gh_own h2, gh_own h2']
        exact s.trans (gh_mono k e1)
end DL

end
section
/-! from the hand layer into the data layer -/
namespace DL
open PySem L2
def frB (p c : Addr) (H : Hp) : Fr := ⟨some p, c, fun a => a = p ∨ a = c, H, fun _ _ _ => False, X0⟩
theorem enterB {K : PySem.W.Frag} {ts : TS} {H : Hp} {p c : Addr} {E : Ends} {σ : L2.St} {i : Nat} {δ : List SD} (hb : Bag c p H) (hσ : σ[i]? = some (some (.ref p))) (hl : δ.length ≤ σ.length)
    (hδ : ∀ (j : Nat) d, δ[j]? = some d → d = .none ∨ (d = .bag ∧ j = i)) (q : ∀ H', E.rt (.bl true) H')
    (hs : WS K (frB p c H) ts δ ⟨fun _ => False, fun d => d = .bl true, fun _ => False, fun _ => False, fun _ => False⟩) : ts E σ H := by
  refine hs (gh (frB p c H) [] H) E [] σ H ⟨Ext.refl _ _, (fun a h => by cases h; exact hb), fun a h => ?_, (fun a h => by cases h; exact .inl rfl), fun a h => .inr rfl, (fun a h => by cases h), (fun a h => by cases h), (fun cls d fs H' hx => False.elim hx)⟩ ⟨fun j d h => ?_, fun j h => ?_, fun j o h => ?_, fun j k o u p h => ?_, hl⟩ (Sub.refl _) ⟨fun L σ H δ h => False.elim h, fun v H d h k dv => ?_, fun L σ H δ h => False.elim h, fun L σ H δ h => False.elim h, fun L p xs H ds z => z.elim⟩
  · obtain ⟨_, _, _, _, _, _, h1, h2, _⟩ := hb
    rcases h with rfl | rfl
    · show H a ≠ none
      rw [h1]
      simp
    · show H a ≠ none
      rw [h2]
      simp
  · rcases hδ j _ h with e | ⟨e, _⟩ <;> cases e
  · rcases hδ j _ h with e | ⟨e, rfl⟩
    · cases e
    · exact ⟨p, rfl, hσ⟩
  · rcases hδ j _ h with e | ⟨e, _⟩ <;> cases e
  · rcases hδ j _ h with e | ⟨e, _⟩ <;> cases e
  · cases h
    cases dv
    exact q H
theorem enterL {K : PySem.W.Frag} {ts : TS} {H : Hp} {p c : Addr} {E : Ends} {σ : L2.St} {n : Nat} (hb : Bag c p H) (hσ : σ[1]? = some (some (.ref p))) (hl : n + 2 ≤ σ.length) (q : ∀ H', E.rt (.bl true) H')
    (hs : ∀ F : Fr, WS K F ts (.none :: .bag :: List.replicate n .none) ⟨fun _ => False, fun d => d = .bl true, fun _ => False, fun _ => False, fun _ => False⟩) : ts E σ H :=
  enterB (i := 1) hb hσ (by simp; omega) (fun j d h => by
    rcases j with _ | _ | j
    · exact .inl (by simpa using h.symm)
    · exact .inr ⟨by simpa using h.symm, rfl⟩
    · exact .inl (List.eq_of_mem_replicate (List.mem_of_getElem? (by simpa using h)))) q (hs _)
end DL

end
section
/-! data that == may compare; == is equality there -/
namespace DL
open PySem L2
def okN : Nat → D → Bool
  | _, .non => true
  | _, .bl _ => true
  | _, .int _ => true
  | _, .str s => PyData.strOk s
  | n + 1, .lst l => l.all (okN n)
  | n + 1, .tup l => l.all (okN n)
  | _, _ => false
theorem okN_all {n : Nat} (ih : ∀ d, okN n d = true → d.plain = true ∧ d.toP.canLay0 = true ∧ d.toP.depth ≤ n) : ∀ l : List D, l.all (okN n) = true → D.plains l = true ∧ PyData.canLayAll0 (D.toPs l) = true ∧ PyData.depthAll (D.toPs l) ≤ n
  | [], _ => ⟨rfl, rfl, Nat.zero_le _⟩
  | d :: l, h => by
    rw [List.all_cons, Bool.and_eq_true] at h
    obtain ⟨a1, a2, a3⟩ := ih d h.1
    obtain ⟨b1, b2, b3⟩ := okN_all ih l h.2
    refine ⟨by rw [D.plains, a1, b1]; rfl, ?_, ?_⟩
    · rw [D.toPs, PyData.canLayAll0, a2, b2]
      rfl
    · rw [D.toPs, PyData.depthAll]
      omega
theorem okN_ok : ∀ (n : Nat) (d : D), okN n d = true → d.plain = true ∧ d.toP.canLay0 = true ∧ d.toP.depth ≤ n
  | n, .non, _ => ⟨rfl, by simp [D.toP, PyData.canLay0], by simp [D.toP, PyData.depth]⟩
  | n, .bl _, _ => ⟨rfl, by simp [D.toP, PyData.canLay0], by simp [D.toP, PyData.depth]⟩
  | n, .int _, _ => ⟨rfl, by simp [D.toP, PyData.canLay0], by simp [D.toP, PyData.depth]⟩
  | n, .str s, h => ⟨rfl, by simp [D.toP, PyData.canLay0]; simpa [okN] using h, by simp [D.toP, PyData.depth]⟩
  | n + 1, .lst l, h => by
    obtain ⟨a1, a2, a3⟩ := okN_all (okN_ok n) l (by simpa [okN] using h)
    exact ⟨by rw [D.plain]; exact a1, by rw [D.toP, PyData.canLay0]; exact a2, by rw [D.toP, PyData.depth]; omega⟩
  | n + 1, .tup l, h => by
    obtain ⟨a1, a2, a3⟩ := okN_all (okN_ok n) l (by simpa [okN] using h)
    exact ⟨by rw [D.plain]; exact a1, by rw [D.toP, PyData.canLay0]; exact a2, by rw [D.toP, PyData.depth]; omega⟩
  | n, .ins _ _, h => by simp [okN] at h
  | n, .dct _, h => by simp [okN] at h
  | n, .raw _, h => by simp [okN] at h
  | 0, .lst _, h => by simp [okN] at h
  | 0, .tup _, h => by simp [okN] at h
theorem ok_of (n : Nat) {d : D} (h : okN n d = true) (hn : n ≤ 64 := by decide) : d.ok := by
  obtain ⟨a1, a2, a3⟩ := okN_ok n d h
  refine ⟨a1, ?_⟩
  unfold SeqAt.shaped
  rw [a2, Bool.true_and, decide_eq_true_eq]
  omega
theorem okN_tupI (n : Nat) (ns : List Int) : okN (n + 1) (tupI ns) = true := by
  rw [okN, List.all_map, List.all_eq_true]
  intro x _
  simp [okN]
theorem okN_rows (n : Nat) (rows : List (List Int)) : okN (n + 2) (.lst (rows.map tupI)) = true := by
  rw [okN, List.all_map, List.all_eq_true]
  intro x _
  exact okN_tupI n x
theorem okN_rowsT (n : Nat) (rows : List (List Int)) : okN (n + 2) (.tup (rows.map tupI)) = true := by
  rw [okN, List.all_map, List.all_eq_true]
  intro x _
  exact okN_tupI n x
/-- no bools -/
def clN : Nat → D → Bool
  | _, .non => true
  | _, .int _ => true
  | _, .str s => PyData.strOk s
  | n + 1, .lst l => l.all (clN n)
  | n + 1, .tup l => l.all (clN n)
  | _, _ => false
theorem eqv_all {n : Nat} (ih : ∀ d e, clN n d = true → clN n e = true → (PyData.eqv d.toP e.toP = true ↔ d = e)) : ∀ l m : List D, l.all (clN n) = true → m.all (clN n) = true → (PyData.eqvAll (D.toPs l) (D.toPs m) = true ↔ l = m)
  | [], [], _, _ => by simp [D.toPs, PyData.eqvAll]
  | [], _ :: _, _, _ => by simp [D.toPs, PyData.eqvAll]
  | _ :: _, [], _, _ => by simp [D.toPs, PyData.eqvAll]
  | d :: l, e :: m, h, k => by
    rw [List.all_cons, Bool.and_eq_true] at h k
    rw [D.toPs, D.toPs, PyData.eqvAll, Bool.and_eq_true, ih d e h.1 k.1, eqv_all ih l m h.2 k.2]
    simp
theorem eqv_cl : ∀ (n : Nat) (d e : D), clN n d = true → clN n e = true → (PyData.eqv d.toP e.toP = true ↔ d = e)
  | 0, d, e, h, k => by
    cases d <;> cases e <;> simp_all [clN, D.toP, PyData.eqv]
  | n + 1, d, e, h, k => by
    have ih := eqv_all (eqv_cl n)
    cases d <;> cases e <;> simp_all [clN, D.toP, PyData.eqv]
theorem eqD_cl (n : Nat) {d e : D} (h : clN n d = true) (k : clN n e = true) : (eqD d e = true ↔ d = e) := eqv_cl n d e h k
theorem clN_tupI (n : Nat) (ns : List Int) : clN (n + 1) (tupI ns) = true := by
  rw [clN, List.all_map, List.all_eq_true]
  intro x _
  simp [clN]
theorem clN_rows (n : Nat) (rows : List (List Int)) : clN (n + 2) (.lst (rows.map tupI)) = true := by
  rw [clN, List.all_map, List.all_eq_true]
  intro x _
  exact clN_tupI n x
theorem ints_inj : ∀ {a b : List Int}, a.map D.int = b.map D.int → a = b
  | [], [], _ => rfl
  | [], _ :: _, h => by simp at h
  | _ :: _, [], h => by simp at h
  | a :: r, b :: q, h => by
    simp only [List.map_cons, List.cons.injEq] at h
    obtain ⟨h1, h2⟩ := h
    cases h1
    rw [ints_inj h2]
theorem tupI_inj {a b : List Int} (h : tupI a = tupI b) : a = b := ints_inj (D.tup.inj h)
theorem eqD_tupI (a b : List Int) : eqD (tupI a) (tupI b) = decide (a = b) := by
  have := eqD_cl 1 (clN_tupI 0 a) (clN_tupI 0 b)
  by_cases e : a = b
  · rw [decide_eq_true e, this.mpr (by rw [e])]
  · rw [decide_eq_false e]
    cases q : eqD (tupI a) (tupI b) with
    | false => rfl
    | true => exact absurd (tupI_inj (this.mp q)) e
theorem any_eqD (l : List (List Int)) (a : List Int) : (l.map tupI).any (fun z => eqD z (tupI a)) = decide (a ∈ l) := by
  rw [List.any_map]
  induction l with
  | nil => simp
  | cons b l ih =>
    rw [List.any_cons, ih]
    show (eqD (tupI b) (tupI a) || _) = _
    rw [eqD_tupI]
    by_cases e : a = b
    · subst e; simp
    · simp [e, Ne.symm e]
section
variable {K : PySem.W.Frag} {F : Fr}
theorem rv_inT {a : List Int} {rows : List (List Int)} : RV K F (rInX K) (tupI a) (.lst (rows.map tupI)) (.bl (decide (a ∈ rows))) := rd_inX <| rd_inD (ok_of 1 (okN_tupI 0 a)) (ok_of 2 (okN_rows 0 rows)) (by rw [any_eqD])
theorem rv_ninT {a : List Int} {rows : List (List Int)} : RV K F (rNinX K) (tupI a) (.lst (rows.map tupI)) (.bl (!decide (a ∈ rows))) := rd_ninX <| rd_ninD (ok_of 1 (okN_tupI 0 a)) (ok_of 2 (okN_rows 0 rows)) (by rw [any_eqD])
theorem rv_eqT {a b : List Int} : RV K F (rEqA K) (tupI a) (tupI b) (.bl (decide (a = b))) := rd_eqD (ok_of 1 (okN_tupI 0 a)) (ok_of 1 (okN_tupI 0 b)) (by rw [eqD_tupI])
theorem rv_neT {a b : List Int} : RV K F (rNeA K) (tupI a) (tupI b) (.bl (!decide (a = b))) := rd_neD (ok_of 1 (okN_tupI 0 a)) (ok_of 1 (okN_tupI 0 b)) (by rw [eqD_tupI])
theorem rv_eqSame {x : D} (h : x.ok) : RV K F (rEqA K) x x (.bl true) := rd_eqD h h (by rw [eqD_refl h])
theorem rv_neSame {x : D} (h : x.ok) : RV K F (rNeA K) x x (.bl false) := rd_neD h h (by rw [eqD_refl h]; rfl)
theorem rv_zeros {n x : Int} (h0 : 1 ≤ n) (h1 : n ≤ 1000) : RV K F (rMulT K) (.tup [.int x]) (.int n) (tupI (List.replicate n.toNat x)) := by
  have h := rv_mulT (K := K) (F := F) (ds := [D.int x]) h0 h1 (by simp) (by simp)
  have e : (List.replicate n.toNat [D.int x]).flatten = (List.replicate n.toNat x).map D.int := by
    rw [List.map_replicate]
    induction n.toNat with
    | zero => rfl
    | succ k ih => rw [List.replicate_succ, List.replicate_succ, List.flatten_cons, ih]; rfl
  rw [e] at h
  exact h
end
end DL

end
section
/-! the combined operators at a named fragment: what stands in a comprehension -/
namespace DL
open PySem L2
variable {X : Cx} {K : PySem.W.Frag}
theorem op_addK (e : X.K = K) : OpR X (binaryOp .Add) (rAddA K) := e ▸ op_addA
theorem op_mulK (e : X.K = K) : OpR X (binaryOp .Mult) (rMulA K) := e ▸ op_mulA
theorem op_mulTK (e : X.K = K) : OpR X (binaryOp .Mult) (rMulT K) := e ▸ op_mulT
theorem op_eqK (e : X.K = K) (hu : X.A.units + 64 < cLine) : OpR X (compareOp .Eq) (rEqA K) := e ▸ op_eqA hu
theorem op_neK (e : X.K = K) (hu : X.A.units + 64 < cLine) : OpR X (compareOp .NotEq) (rNeA K) := e ▸ op_neA hu
theorem op_inK (e : X.K = K) (hu : X.A.units + 65 < cLine) : OpR X (compareOp .In) (rInX K) := e ▸ op_inX hu
theorem op_ninK (e : X.K = K) (hu : X.A.units + 65 < cLine) : OpR X (compareOp .NotIn) (rNinX K) := e ▸ op_ninX hu
theorem ix_K (e : X.K = K) : IxR X (rIx K) := e ▸ ix_seq
theorem sl_K (e : X.K = K) : SlR X (rSlA K) := e ▸ sl_A
theorem call_lenK (e : X.K = K) : CallR X (.builtin "len") (rLenA K) := e ▸ call_lenA
theorem call_allK (e : X.K = K) (hc : X.calm = true) : CallR X (.builtin "all") (rAll K) := e ▸ cr_all hc
theorem call_anyK (e : X.K = K) (hc : X.calm = true) : CallR X (.builtin "any") (rAny K) := e ▸ cr_any hc
theorem call_sumK (e : X.K = K) (hc : X.calm = true) : CallR X (.builtin "sum") (rSum K) := e ▸ cr_sum hc
theorem call_maxK (e : X.K = K) (hc : X.calm = true) : CallR X (.builtin "max") (rMaxA K) := e ▸ call_maxA hc
theorem call_isiK (e : X.K = K) : CallR X (.builtin "isinstance") (rIsiA K) := e ▸ call_isiA
theorem call_listK (e : X.K = K) : CallR X (.type "list") (rListA K) := e ▸ call_listA
theorem call_tupK (e : X.K = K) : CallR X (.type "tuple") (rTupA K) := e ▸ call_tupA
theorem call_sortedK {P : Program} {w : World} (e : X.K = K) (e2 : X.prog = P) (e3 : X.w = w) (hc : X.calm = true) : CallR X (.builtin "sorted") (rSortedA K P w) := by
  subst e e2 e3
  exact call_sortedA hc
theorem call_setK {P : Program} {w : World} (e : X.K = K) (e2 : X.prog = P) (e3 : X.w = w) (hc : X.calm = true) (hu : X.A.units + 64 < cLine) : CallR X (.type "set") (rSetA K P w) := by
  subst e e2 e3
  exact call_setA hc hu
theorem pi_listK {tg l : Expr} {tl : TE} (e : X.K = K) (hl : PE X l tl) : PI X tg l (iList K tl) := e ▸ pi_list hl
theorem pi_tupK {tg l : Expr} {tl : TE} (e : X.K = K) (hl : PE X l tl) : PI X tg l (iTup K tl) := e ▸ pi_tup hl
theorem pi_zipK {tg : Expr} {a b : Expr} {ta : TA} {p pos : Pos} (eK : X.K = K) (h : PI X tg (.Call (.Name "zip" p) [a, b] [] pos) (RZ.iZipA X.K ta)) : PI X tg (.Call (.Name "zip" p) [a, b] [] pos) (RZ.iZipA K ta) := eK ▸ h
theorem pa_starK {e : Expr} {es : List Expr} {p : Pos} {te : TE} {t : TA} (eK : X.K = K) (he : PE X e te) (hr : PA X es t) (hs : starEach (.Starred e p :: es) X.env = (true, eval e X.env) :: starEach es X.env := by rfl) : PA X (.Starred e p :: es) (StX.tStar K te t) := eK ▸ StX.pa_star he hr hs
/-- a comprehension within a comprehension -/
def relabelS (scope st : Scope) : Scope := { scope with names := scope.names.map fun (n, k) => if (k == .free && st.kind == .function && st.names.lookup n == some .cell) then (n, .cell) else (n, k) }
theorem blkOk_nest {N : List Str} {sc scope : Scope} {own : List (Str × Nat)} {env : Env} (st : Scope) (e : env.scope = st) (h : blkC N (relabelS sc st) scope own = true) : BlkOk N (relabel sc env) scope own := by
  subst e
  exact blkOk_by h
end DL

end
section
/-! texts over data -/
namespace DL
open PySem L2
variable {K : PySem.W.Frag} {F : Fr} {δ : List SD} {X : Cx}
/-- a text of signs, and its signs as data -/
abbrev ch (c : Nat) : D := .str ⟨#[c]⟩
def chs (s : Str) : List D := s.cps.toList.map ch
theorem wi_str {te : TE} {P : List D → Prop} (h : WE K F te δ fun d => ∃ s, d = .str s ∧ P (chs s)) : WI K F (iStr te) δ P := fun L σ H k x R r =>
  h L σ H k x _ fun v H1 d p e1 k1 dv => by
    obtain ⟨s, rfl, p⟩ := p
    cases dv.to_str
    refine ⟨s, rfl, r _ H1 _ p e1 k1 fun L' H' k' s' i => ⟨fun hi => ?_, fun d hd => ?_⟩⟩
    · show s.cps.size ≤ i
      unfold chs at hi
      rw [List.length_map, Array.length_toList] at hi
      exact hi
    · unfold chs at hd
      rw [List.getElem?_map] at hd
      cases q : s.cps.toList[i]? with
      | none => rw [q] at hd; cases hd
      | some c =>
        rw [q] at hd
        cases hd
        have q2 : s.cps[i]? = some c := by rw [← Array.getElem?_toList]; exact q
        refine ⟨(Array.getElem?_eq_some_iff.mp q2).1, fun y H3 ⟨e, c', hc, hv⟩ => ?_⟩
        rw [q2] at hc
        cases hc
        subst e hv
        exact ⟨Ext.refl _ _, k', .str _⟩
theorem ei_str {te : TE} {s : Str} {x : D} (h : EV K F te δ x) (e : x = .str s) : EI K F (iStr te) δ (chs s) := wi_str (h.we ⟨s, e, rfl⟩)
theorem rv_inCh {c : Nat} {s : Str} : RV K F (rInX K) (ch c) (.str s) (.bl (decide (c ∈ s.cps.toList))) := rd_inCh rfl
theorem inV_strs (a : Str) : ∀ l : List Str, inV (V.str a) (l.map V.str) = decide (a ∈ l)
  | [] => by simp [inV]
  | b :: l => by
    show (b == a || inV (V.str a) (l.map V.str)) = _
    rw [inV_strs a l, Bool.eq_iff_iff, Bool.or_eq_true, beq_iff_eq, decide_eq_true_eq, decide_eq_true_eq, List.mem_cons]
    exact or_congr ⟨Eq.symm, Eq.symm⟩ Iff.rfl
theorem rv_inStrs {a : Str} {l : List Str} : RV K F (rInX K) (.str a) (.tup (l.map D.str)) (.bl (decide (a ∈ l))) := fun L H v u k x y Q c => by
  cases x
  obtain ⟨p, xs, rfl, h1, h2⟩ := y.to_tup
  cases h2.strs
  refine .inl (.inl ⟨p, _, rfl, .inr (gh_sub.t h1), rfl, ?_, ?_⟩)
  · rw [List.all_map, List.all_eq_true]
    intro z _
    rfl
  · rw [if_neg (by decide)]
    refine c _ H _ rfl (Ext.refl _ _) k ?_
    rw [inV_strs]
    exact .bl _
theorem ev_chainS {r r' : R2} {ta tb tc : TE} {x y u : D} {a b : Bool} (ha : EV K F ta δ x) (hb : EV K F tb δ y) (hr : RV K F r x y (.bl a)) (hc : a = true → EV K F tc δ u) (hr' : a = true → RV K F r' y u (.bl b)) : EV K F (tChain r r' ta tb tc) δ (.bl (a && b)) :=
  ev_chain ha hb hr (.inr ⟨a, b, u, rfl, hc, hr', rfl⟩)
theorem rv_eqSt {s t : Str} (h : s = t) : RV K F (rEqA K) (.str s) (.str t) (.bl true) := by
  have := rv_eqS (K := K) (F := F) (s := s) (t := t)
  rw [decide_eq_true h] at this
  exact this
theorem rv_eqSf {s t : Str} (h : s ≠ t) : RV K F (rEqA K) (.str s) (.str t) (.bl false) := by
  have := rv_eqS (K := K) (F := F) (s := s) (t := t)
  rw [decide_eq_false h] at this
  exact this
theorem rv_inSt {a : Str} {l : List Str} (h : a ∈ l) : RV K F (rInX K) (.str a) (.tup (l.map D.str)) (.bl true) := by
  have := rv_inStrs (K := K) (F := F) (a := a) (l := l)
  rw [decide_eq_true h] at this
  exact this
theorem rv_inSf {a : Str} {l : List Str} (h : a ∉ l) : RV K F (rInX K) (.str a) (.tup (l.map D.str)) (.bl false) := by
  have := rv_inStrs (K := K) (F := F) (a := a) (l := l)
  rw [decide_eq_false h] at this
  exact this
/-- sep.join(texts) -/
def rJoin (K : PySem.W.Frag) : V → List V → Hp → VK → Prop := fun x xs H Q => ∃ a p, ∃ ys : List Str, x = .str a ∧ xs = [.ref p] ∧ (SqL K H p (ys.map V.str) ∨ SqT K H p (ys.map V.str)) ∧
    (ys.map (·.length)).sum + ys.length * a.length ≤ 16777216 ∧ Q (.str (Txt.join a ys)) H
theorem mt_joinK (e : X.K = K) : MtR X "str.join" (rJoin K) := e ▸ mt_join
theorem we_join {to : TE} {te : TE} {P : D → Prop} (ho : WE K F to δ fun d => ∃ a, d = .str a ∧ WE K F te δ fun e => ∃ ys : List Str, e = .lst (ys.map D.str) ∧ (ys.map (·.length)).sum + ys.length * a.length ≤ 16777216 ∧ P (.str (Txt.join a ys))) :
    WE K F (tBM K "str" (rJoin K) to (tCons te tNil)) δ P := fun L σ H k x Q c =>
  ho L σ H k x _ fun v H1 d p e1 k1 dv => by
    obtain ⟨a, rfl, p⟩ := p
    cases dv.to_str
    refine ⟨rfl, p L σ H1 k1 (x.next k e1) _ fun u H2 e p2 e2 k2 du => ?_⟩
    obtain ⟨ys, rfl, hl, p2⟩ := p2
    obtain ⟨q, xs, rfl, h1, h2⟩ := du.to_lst
    cases h2.strs
    exact ⟨a, q, ys, rfl, rfl, .inl (sqL (gh_sub _ _ h1)), hl, c _ _ _ p2 (e1.trans e2) k2 (.str _)⟩
theorem ev_join {to te : TE} {a : Str} {ys : List Str} (ho : EV K F to δ (.str a)) (he : EV K F te δ (.lst (ys.map D.str))) (hl : (ys.map (·.length)).sum + ys.length * a.length ≤ 16777216) :
    EV K F (tBM K "str" (rJoin K) to (tCons te tNil)) δ (.str (Txt.join a ys)) := we_join (ho.we ⟨a, rfl, he.we ⟨ys, rfl, hl, rfl⟩⟩)
end DL

end
section
/-! a written dict from texts to ints -/
namespace DL
open PySem L2
variable {K : PySem.W.Frag} {F : Fr} {δ : List SD} {X : Cx} {w : World} {d : Addr} {rows : List (Str × Int)} {z : Str} {i : Int}
def entI (e : DictEntry) : Option (Str × Int) := match e.key, e.val with
  | .str x _, .int i _ => some (x, i)
  | _, _ => none
def WD (K : PySem.W.Frag) (w : World) (d : Addr) (rows : List (Str × Int)) : Prop := ∃ es n, KDict K w d es n ∧ es.toList.map entI = rows.map some
theorem ent_find (z : Str) : ∀ (l : List DictEntry) (rows : List (Str × Int)), l.map entI = rows.map some → (match rows.lookup z with
    | some i => ∃ e t, l.find? (·.key.isStr z) = some e ∧ e.val = .int i t
    | none => l.find? (·.key.isStr z) = none) ∧ l.any (·.refKey) = false
  | [], [], _ => ⟨rfl, rfl⟩
  | [], _ :: _, h => by simp at h
  | _ :: _, [], h => by simp at h
  | e :: l, (x, i) :: rows, h => by
    simp only [List.map_cons, List.cons.injEq] at h
    obtain ⟨h1, h2⟩ := h
    obtain ⟨a1, a2⟩ := ent_find z l rows h2
    obtain ⟨hash, key, val⟩ := e
    have hk : ∃ t u, key = .str x t ∧ val = .int i u := by
      unfold entI at h1
      cases key <;> cases val <;> simp at h1
      obtain ⟨rfl, rfl⟩ := h1
      exact ⟨_, _, rfl, rfl⟩
    obtain ⟨t, u, rfl, rfl⟩ := hk
    refine ⟨?_, by rw [List.any_cons, a2]; rfl⟩
    rw [List.lookup_cons, List.find?_cons]
    have hs : Value.isStr (.str x t) z = (z == x) := by
      rw [Bool.eq_iff_iff, beq_iff_eq]
      show (x == z) = true ↔ _
      rw [beq_iff_eq]
      exact ⟨Eq.symm, Eq.symm⟩
    simp only [hs]
    cases hz : z == x with
    | true => exact ⟨_, u, rfl, rfl⟩
    | false => exact a1
theorem WD.none (h : WD K w d rows) (e : rows.lookup z = none) : PySem.W.nsIn K d z = some none := by
  obtain ⟨es, n, k, hr⟩ := h
  obtain ⟨h1, h2⟩ := ent_find z _ _ hr
  rw [e] at h1
  unfold PySem.W.nsIn
  rw [k.at_]
  simp only [h1, h2]
  rfl
theorem WD.some (h : WD K w d rows) (e : rows.lookup z = some i) : ∃ t, PySem.W.nsIn K d z = some (some (.int i t)) := by
  obtain ⟨es, n, k, hr⟩ := h
  obtain ⟨h1, h2⟩ := ent_find z _ _ hr
  rw [e] at h1
  obtain ⟨e, t, h3, h4⟩ := h1
  refine ⟨t, ?_⟩
  unfold PySem.W.nsIn
  rw [k.at_]
  simp only [h3, h4]
def rInKD (K : PySem.W.Frag) (w : World) : R2 := fun x y H Q => ∃ (z : Str) (d : Addr) (r : Option Value), x = .str z ∧ y = .ref d ∧ (∃ es n, KDict K w d es n) ∧ PySem.W.nsIn K d z = some r ∧ Q (.bl r.isSome) H
def rNinKD (K : PySem.W.Frag) (w : World) : R2 := fun x y H Q => ∃ (z : Str) (d : Addr) (r : Option Value), x = .str z ∧ y = .ref d ∧ (∃ es n, KDict K w d es n) ∧ PySem.W.nsIn K d z = some r ∧ Q (.bl (!r.isSome)) H
theorem op_inKD (e : X.K = K) (e2 : X.w = w) : OpR X (compareOp .In) (rInKD K w) := by
  subst e e2
  intro pins s σ H x y v u Q I rx ry h
  obtain ⟨z, d, r, rfl, rfl, ⟨es, n, k⟩, h1, q⟩ := h
  exact op_in_kd k pins s σ H _ _ v u Q I rx ry ⟨z, r, rfl, rfl, h1, q⟩
theorem op_ninKD (e : X.K = K) (e2 : X.w = w) : OpR X (compareOp .NotIn) (rNinKD K w) := by
  subst e e2
  intro pins s σ H x y v u Q I rx ry h
  obtain ⟨z, d, r, rfl, rfl, ⟨es, n, k⟩, h1, q⟩ := h
  exact op_notIn_kd k pins s σ H _ _ v u Q I rx ry ⟨z, r, rfl, rfl, h1, q⟩
theorem ix_KD (e : X.K = K) (e2 : X.w = w) : IxR X (rIxD K w) := by
  subst e e2
  exact ix_kdict
theorem WD.kd (h : WD K w d rows) : ∃ es n, KDict K w d es n := by
  obtain ⟨es, n, k, _⟩ := h
  exact ⟨es, n, k⟩
theorem rv_inKD (h : WD K w d rows) : RV K F (rInKD K w) (.str z) (.raw (.ref d)) (.bl (rows.lookup z).isSome) := fun L H v u k a b Q c => by
  cases a; cases b
  cases e : rows.lookup z with
  | none => exact ⟨z, d, none, rfl, rfl, h.kd, h.none e, c (.bl false) H (.bl false) (by show D.bl _ = D.bl _; rw [e]; rfl) (Ext.refl _ _) k (.bl _)⟩
  | some i =>
    obtain ⟨t, ht⟩ := h.some e
    exact ⟨z, d, some (.int i t), rfl, rfl, h.kd, ht, c (.bl true) H (.bl true) (by show D.bl _ = D.bl _; rw [e]; rfl) (Ext.refl _ _) k (.bl _)⟩
theorem rv_ninKD (h : WD K w d rows) : RV K F (rNinKD K w) (.str z) (.raw (.ref d)) (.bl (!(rows.lookup z).isSome)) := fun L H v u k a b Q c => by
  cases a; cases b
  cases e : rows.lookup z with
  | none => exact ⟨z, d, none, rfl, rfl, h.kd, h.none e, c (.bl true) H (.bl true) (by show D.bl _ = D.bl _; rw [e]; rfl) (Ext.refl _ _) k (.bl _)⟩
  | some i =>
    obtain ⟨t, ht⟩ := h.some e
    exact ⟨z, d, some (.int i t), rfl, rfl, h.kd, ht, c (.bl false) H (.bl false) (by show D.bl _ = D.bl _; rw [e]; rfl) (Ext.refl _ _) k (.bl _)⟩
theorem rv_ninKDs (h : WD K w d rows) (e : rows.lookup z = some i) : RV K F (rNinKD K w) (.str z) (.raw (.ref d)) (.bl false) := by
  have := rv_ninKD (K := K) (F := F) (z := z) h
  rw [e] at this
  exact this
theorem rv_ixKD (h : WD K w d rows) (e : rows.lookup z = some i) : RV K F (rIxD K w) (.raw (.ref d)) (.str z) (.int i) := fun L H v u k a b Q c => by
  cases a; cases b
  obtain ⟨t, ht⟩ := h.some e
  obtain ⟨es, n, kk⟩ := h.kd
  exact ⟨d, z, .int i, rfl, rfl, ⟨es, n, _, kk.at_, kk.lit, ht, ⟨t, rfl⟩⟩, c _ H _ rfl (Ext.refl _ _) k (.int _)⟩
end DL

end
section
/-! defs with defaults -/
namespace DL
open PySem PySem.Spec PyProof.Rows L2
section
variable {P : Program} {w : World} {K : PySem.W.Frag} {mg : Str → Option Value} {base : Heap}
theorem okD {x qual : Str} {st : Stmt} {dvs : List V} {kws : List (Str × V)} {f : Addr} {fd : FuncData} {N ps : List Str} {k : Nat} {sp : Sp} (F : FunD K x qual (defArgs st) (defBody st) (defScope st) dvs kws f fd) (S : FnScope N ps (defScope st)) (len : ∀ vs H Q E, sp vs H Q E → vs.length = ps.length)
    (hbody : ∀ (cdv : Value) (A : Around) (outer : List Env) (s : Shared) (H : Hp) (vs : List V) (Q : VK) (E : XK), Room k (A.deeper (envOfC qual (defScope st) s.heap.objs.size f cdv)) → sp vs H Q E →
      ∃ t, PSs (cxOf CX0 P w K mg base N qual (defScope st) f cdv A outer s H E).nox (defBody st) t ∧ t { nx := fun _ H' => Q .non H', rt := Q } (start N vs) H) : FnOk P w K mg base CX0 (k + 1) f fd ps sp :=
  F.ok S len fun cdv A outer s H vs Q E hr hsp => by
    obtain ⟨t, h, q⟩ := hbody cdv A outer s H vs Q E hr hsp
    exact ⟨t, h.nox, q⟩
theorem fund_mk {x qual : Str} {st : Stmt} {f : Addr} {oc : Value} {od an : Option Addr} {osl : Array (Option Value)} {dV kV doc pm cdv ct : Value} {dvs : List V} {kws : List (Str × V)} (l : K.lookup f = some ⟨oc, od, .func (PySem.W.fnOf x qual (defArgs st) (defBody st) (defScope st) dV kV doc pm an cdv ct), osl⟩)
    (c : PySem.W.codeIn K cdv qual = true) (k : PySem.W.keepIn K (.ref f) = true) (hD : DflV K dV dvs) (hK : KwdV K kV kws) : FunD K x qual (defArgs st) (defBody st) (defScope st) dvs kws f (PySem.W.fnOf x qual (defArgs st) (defBody st) (defScope st) dV kV doc pm an cdv ct) :=
  ⟨⟨oc, od, dV, kV, doc, pm, an, cdv, ct, osl, rfl, l, c, hD, hK⟩, k⟩
theorem dfl0 : DflV K .none [] := .inl ⟨rfl, rfl⟩
theorem dfl1 {T : Addr} {oc : Value} {od : Option Addr} {its : Array Value} {n : Nat} {sl : Array (Option Value)} {dvs : List V} (hd : dvs ≠ []) (l : K.lookup T = some ⟨oc, od, .seq its n, sl⟩) (r : Vals dvs its.toList) : DflV K (.ref T) dvs :=
  .inr ⟨hd, T, _, its.toList, n, rfl, l, rfl, r⟩
theorem kwd0 {kV : Value} : KwdV K kV [] := .inl rfl
theorem kwd1 {D : Addr} {kws : List (Str × V)} (h : ∀ q ∈ kws, ∃ u, PySem.W.nsIn K D q.1 = some (some u) ∧ RelV q.2 u) : KwdV K (.ref D) kws := .inr ⟨D, rfl, h⟩
end
section
variable {K : PySem.W.Frag} {F : Fr} {δ : List SD}
def atL {α : Type} (l : List α) (i : Nat) : List α := l[i]?.toList
theorem vals_atL {vs : List V} {us : List Value} (r : Vals vs us) (i : Nat) : Vals (atL vs i) (atL us i) := by
  unfold atL
  cases e : vs[i]? with
  | none => rw [Vals.none_of r e]; exact .nil
  | some v =>
    obtain ⟨u, h1, h2⟩ := Vals.get r e
    rw [h1]
    exact .cons h2 .nil
theorem dvs_atL {G : Hp} {vs : List V} {ds : List D} (r : DVs K G vs ds) (i : Nat) : DVs K G (atL vs i) (atL ds i) := by
  unfold atL
  cases e : ds[i]? with
  | none =>
    have h : vs[i]? = none := by
      rw [List.getElem?_eq_none_iff] at e ⊢
      rw [r.length]
      exact e
    rw [h]
    exact .nil
  | some d =>
    obtain ⟨v, h1, h2⟩ := r.get e
    rw [h1]
    exact .cons h2 .nil
/-- a def that raises nothing, some defaults filled up -/
theorem ev_callD {sp : DSp} {tA : TA} {ds dds : List D} {dvs : List V} {v : D} (hd : ∀ G, DVs K G dvs dds) (ha : ED K F tA δ ds) (h : sp ((ds ++ dds).map SD.val) (fun d => d = v) X0) : EV K F (tCall (spOf K sp) dvs E0 tA) δ v := we_call0 (dds := dds) hd (ha.wa (by rw [← List.map_append]; exact h))
end
end DL

end
section
/-! instances over data: fields, methods, properties, constants of a class; making one by __init__ -/
namespace DL
open PySem PySem.Spec PyProof.Rows L2 ClX
variable {K : PySem.W.Frag} {F : Fr} {δ : List SD} {X : Cx} {C : Addr}

theorem we_fld {te : TE} {f : Str} {P : D → Prop} (h : WE K F te δ fun d => ∃ C gs v, d = .ins C gs ∧ Cls K C ∧ NoAttr K C f ∧ gs.lookup f = some v ∧ P v) : WE K F (tFld K te f) δ P := fun L σ H k x Q c =>
  h L σ H k x _ fun v H1 d p e1 k1 dv => by
    obtain ⟨C, gs, u, rfl, cl, na, l, p⟩ := p
    obtain ⟨a, dx, fs, rfl, h1, h2⟩ := dv.to_ins
    obtain ⟨z, l2, dz⟩ := h2.lookup l
    exact ⟨a, C, dx, fs, z, rfl, gh_sub _ _ h1, cl, na, l2, c z H1 u p e1 k1 dz⟩
theorem ev_fld {te : TE} {f : Str} {gs : List (Str × D)} {v : D} (h : EV K F te δ (.ins C gs)) (cl : Cls K C) (na : NoAttr K C f) (l : gs.lookup f = some v) : EV K F (tFld K te f) δ v := we_fld (h.we ⟨C, gs, v, rfl, cl, na, l, rfl⟩)
theorem we_meth {sp : DSp} {dvs : List V} {dds : List D} {te : TE} {t : TA} {m : Str} {P : D → Prop} (hd : ∀ G, DVs K G dvs dds)
    (h : WE K F te δ fun d => ∃ gs, d = .ins C gs ∧ gs.lookup m = none ∧ WA K F t δ fun as => sp (.val d :: (as ++ dds.map SD.val)) P X0) : WE K F (tMeth C m (spOf K sp) dvs E0 te t) δ P := fun L σ H k x Q c =>
  h L σ H k x _ fun v H1 d p e1 k1 dv => by
    obtain ⟨gs, rfl, l, p⟩ := p
    obtain ⟨a, dx, fs, rfl, h1, h2⟩ := dv.to_ins
    refine ⟨a, dx, fs, rfl, gh_sub _ _ h1, h2.lookup_none l, ?_⟩
    refine p L σ H1 k1 (x.next k e1) _ fun vs H2 as p2 e2 k2 av => ?_
    refine ⟨F.call L H2 E0 X0, _, P, rfl, k2.call0, rfl, ?_, p2, fun v H' d pd e b dv => c v H' d pd ((e1.trans e2).trans e) (k2.next e b) (by rw [gh_call] at dv; exact dv)⟩
    rw [gh_call]
    refine AVs.to (F := F) (F' := F.call L H2 E0 X0) rfl (.cons ?_ (av.app (AVs.of (hd _))))
    exact (show DV K _ _ _ from dv.mono (gh_mono k1 e2))
theorem ev_meth {sp : DSp} {te : TE} {t : TA} {m : Str} {gs : List (Str × D)} {ds : List D} {v : D} (h : EV K F te δ (.ins C gs)) (l : gs.lookup m = none) (ha : ED K F t δ ds) (hs : sp (.val (.ins C gs) :: ds.map SD.val) (fun d => d = v) X0) : EV K F (tMeth C m (spOf K sp) [] E0 te t) δ v :=
  we_meth (dds := []) (fun _ => .nil) (h.we ⟨gs, rfl, l, ha.wa (by simpa using hs)⟩)
theorem we_prop {sp : DSp} {te : TE} {P : D → Prop} (h : WE K F te δ fun d => ∃ gs, d = .ins C gs ∧ sp [.val d] P X0) : WE K F (tProp C (spOf K sp) [] E0 te) δ P := fun L σ H k x Q c =>
  h L σ H k x _ fun v H1 d p e1 k1 dv => by
    obtain ⟨gs, rfl, p⟩ := p
    obtain ⟨a, dx, fs, rfl, h1, h2⟩ := id dv.to_ins
    refine ⟨a, dx, fs, rfl, gh_sub _ _ h1, F.call L H1 E0 X0, _, P, rfl, k1.call0, rfl, ?_, p, fun v H' d pd e b dv => c v H' d pd (e1.trans e) (k1.next e b) (by rw [gh_call] at dv; exact dv)⟩
    rw [gh_call]
    exact AVs.to (F := F) (F' := F.call L H1 E0 X0) rfl (.cons (show DV K _ _ _ from dv) .nil)
theorem ev_prop {sp : DSp} {te : TE} {gs : List (Str × D)} {v : D} (h : EV K F te δ (.ins C gs)) (hs : sp [.val (.ins C gs)] (fun d => d = v) X0) : EV K F (tProp C (spOf K sp) [] E0 te) δ v := we_prop (h.we ⟨gs, rfl, hs⟩)
/-- a constant of a class, a whole number -/
theorem ev_cval {te : TE} {f : Str} {mc u : Value} {i : Int} (h : EV K F te δ (.raw (.ref C))) (r : CRead K C mc) (cv : CVal K C mc f (.int i) u) : EV K F (tCVal K te f) δ (.int i) := fun L σ H k x Q c =>
  h L σ H k x _ fun v H1 d p e1 k1 dv => by
    subst p
    cases dv.to_raw
    exact ⟨C, mc, .int i, u, rfl, r, cv, c _ H1 _ rfl e1 k1 (.int i)⟩

/-! ### making an instance -/
/-- what an __init__ asks of its arguments, the fields that it gives -/
abbrev ISp := List SD → (List (Str × D) → Prop) → Prop
def spIOf (K : PySem.W.Frag) (C : Addr) (sp : ISp) : Sp := fun vs H Q E => ∃ (F : Fr) (as : List SD) (P : List (Str × D) → Prop) (x dx : Addr) (ws : List V), vs = .ref x :: ws ∧ F.H0 x = none ∧ F.H0 dx = none ∧ dx ≠ x ∧ H = upd (upd F.H0 dx (.own x)) x (.ins C dx []) ∧
  OkH K F [] F.H0 ∧ F.E = E ∧ AVs K F (gh F [] F.H0) ws as ∧ sp as P ∧ ∀ H' fs gs dx', P gs → Ext F.b F.H0 H' → BagO F.c F.b H' → H' x = some (.ins C dx' fs) → DVf K (gh F [x] H') fs gs → Q .non H'
theorem gh_x {L : List Addr} {H1 H' : Hp} {x : Addr} {E : XK} {X : Value → List (Str × D) → Prop} : Sub (gh (F.call L H1 E X) [x] H') (gh F L H') := fun a o e => by
  obtain ⟨h1, h2, h3⟩ := gh_some.mp e
  exact gh_some.mpr ⟨fun z => h1 (.inl z), fun z => h1 (.inr z), h3⟩
theorem make_core {L : List Addr} {H1 : Hp} {sp : ISp} {as : List SD} {P : D → Prop} {ws : List V} {Q : VK} {x dx : Addr} (k1 : OkH K F L H1) (av : AVs K F (gh F L H1) ws as) (p : sp as fun gs => P (.ins C gs)) (nx : H1 x = none) (ndx : H1 dx = none) (ne : dx ≠ x)
    (c : ∀ v H' d, P d → Ext F.b H1 H' → OkH K F L H' → DV K (gh F L H') v d → Q v H') : spIOf K C sp (.ref x :: ws) (upd (upd H1 dx (.own x)) x (.ins C dx [])) (fun v H3 => v = .non ∧ Q (.ref x) H3) E0 := by
  refine ⟨F.call L H1 E0 X0, as, _, x, dx, ws, rfl, nx, ndx, ne, rfl, k1.call0, rfl, ?_, p, fun H' fs gs dx' pg e b hx dv => ⟨rfl, ?_⟩⟩
  · show AVs K _ (gh (F.call L H1 E0 X0) [] H1) ws as
    rw [gh_call]
    exact AVs.to (F := F) (F' := F.call L H1 E0 X0) rfl av
  · have k' : OkH K F L H' := k1.next e b
    exact c (.ref x) H' _ pg e k' (.ins (gh_some.mpr ⟨k1.notM nx, k1.notL nx, hx⟩) (dv.mono gh_x))
theorem we_make {sp : ISp} {dvs : List V} {dds : List D} {t : TA} {P : D → Prop} (hd : ∀ G, DVs K G dvs dds) (h : WA K F t δ fun as => sp (as ++ dds.map SD.val) fun gs => P (.ins C gs)) : WE K F (tMake C (spIOf K C sp) dvs E0 t) δ P := fun L σ H k x Q c =>
  h L σ H k x _ fun vs H1 as p e1 k1 av y dy ny ndy ne => make_core k1 (av.app (AVs.of (hd _))) p ny ndy ne fun v H' d pd e k' dv => c v H' d pd (e1.trans e) k' dv
theorem ev_make {sp : ISp} {dvs : List V} {dds ds : List D} {t : TA} {gs : List (Str × D)} (hd : ∀ G, DVs K G dvs dds) (ha : ED K F t δ ds) (h : sp ((ds ++ dds).map SD.val) fun g => g = gs) : EV K F (tMake C (spIOf K C sp) dvs E0 t) δ (.ins C gs) :=
  we_make (dds := dds) hd (ha.wa (by
    rw [← List.map_append]
    have : (fun g => D.ins C g = D.ins C gs) = fun g => g = gs := funext fun g => propext ⟨fun e => by cases e; rfl, fun e => by rw [e]⟩
    rw [this]
    exact h))
/-- C(.., k = v): gV orders the values (the new one first), gD what they are -/
theorem we_makeK {sp : ISp} {n m : Nat} {gV : List V → List V → List V} (gD : List D → List D → List D) {t tk : TA} {P : D → Prop} (hg : ∀ G v vs zs ds es, DVs K G vs ds → DVs K G zs es → ∃ us, gV (v :: vs) zs = v :: us ∧ DVs K G us (gD ds es))
    (h : WA K F t δ fun as => ∃ ds : List D, as = ds.map SD.val ∧ ds.length = n ∧ WA K F tk δ fun bs => ∃ es : List D, bs = es.map SD.val ∧ es.length = m ∧ sp ((gD ds es).map SD.val) fun gs => P (.ins C gs)) : WE K F (tMakeK C n m (spIOf K C sp) gV E0 t tk) δ P := fun L σ H k x Q c =>
  h L σ H k x _ fun vs H1 as p e1 k1 av => by
    obtain ⟨ds, rfl, hn, p⟩ := p
    have dv := av.vals
    refine p L σ H1 k1 (x.next k e1) _ fun zs H2 bs p2 e2 k2 bv => ?_
    obtain ⟨es, rfl, hm, p2⟩ := p2
    have ev := bv.vals
    refine ⟨dv.length.trans hn, ev.length.trans hm, fun y dy ny ndy ne => ?_⟩
    obtain ⟨us, e, du⟩ := hg _ (.ref y) _ _ _ _ (dv.mono (gh_mono k1 e2)) ev
    rw [e]
    exact make_core k2 (AVs.of du) p2 ny ndy ne fun v H' d pd e k' dv => c v H' d pd ((e1.trans e2).trans e) k' dv
theorem ev_makeK {sp : ISp} {n m : Nat} {gV : List V → List V → List V} {gD : List D → List D → List D} {t tk : TA} {ds es : List D} {gs : List (Str × D)} (h1 : ED K F t δ ds) (h2 : ED K F tk δ es) (hn : ds.length = n) (hm : es.length = m)
    (hg : ∀ G v vs zs ds es, DVs K G vs ds → DVs K G zs es → ∃ us, gV (v :: vs) zs = v :: us ∧ DVs K G us (gD ds es)) (h : sp ((gD ds es).map SD.val) fun g => g = gs) : EV K F (tMakeK C n m (spIOf K C sp) gV E0 t tk) δ (.ins C gs) :=
  we_makeK gD hg (h1.wa ⟨ds, rfl, hn, h2.wa ⟨es, rfl, hm, by
    have : (fun g => D.ins C g = D.ins C gs) = fun g => g = gs := funext fun g => propext ⟨fun e => by cases e; rfl, fun e => by rw [e]⟩
    rw [this]
    exact h⟩⟩)
/-! ### an __init__'s body -/
theorem spIOf_len {sp : ISp} {n : Nat} (hl : ∀ as P, sp as P → as.length + 1 = n) {vs : List V} {H : Hp} {Q : VK} {E : XK} (h : spIOf K C sp vs H Q E) : vs.length = n := by
  obtain ⟨F, as, P, x, dx, ws, rfl, _, _, _, _, _, _, av, hs, _⟩ := h
  rw [List.length_cons, av.length]
  exact hl _ _ hs
theorem EnvOk.self {σ : L2.St} {H : Hp} {x dx : Addr} (k : OkH K F [] H) (e : EnvOk K F [] H σ δ) (nx : H x = none) (ndx : H dx = none) (ne : dx ≠ x) :
    EnvOk K F [x] (upd (upd H dx (.own x)) x (.ins C dx [])) (some (.ref x) :: σ) (.own (.slf x C []) :: δ) := by
  have nx1 : (upd H dx (.own x)) x = none := by rw [upd_ne (Ne.symm ne)]; exact nx
  have s1 : Sub (gh F [] H) (gh F [x] (upd (upd H dx (.own x)) x (.ins C dx []))) := by
    refine Sub.trans ?_ (gh_newL nx1)
    exact gh_mono k (.of_sub (.upd ndx))
  have e1 := e.to (L' := [x]) (H' := upd (upd H dx (.own x)) x (.ins C dx [])) s1 fun p hp => by cases hp
  refine ⟨fun i d h => ?_, fun i h => ?_, fun i o h => ?_, fun i j o u p h1 h2 h3 h4 => ?_, Nat.succ_le_succ e1.len⟩
  · cases i with
    | zero => cases h
    | succ i => exact e1.vals i d (by simpa using h)
  · cases i with
    | zero => cases h
    | succ i => exact e1.bags i (by simpa using h)
  · cases i with
    | zero =>
      cases h
      exact ⟨x, rfl, List.mem_cons_self .., .slf upd_same .nil⟩
    | succ i =>
      obtain ⟨p, _, hp, _⟩ := e.owns i o (by simpa using h)
      cases hp
  · cases i with
    | zero =>
      cases j with
      | zero => rfl
      | succ j =>
        obtain ⟨p, _, hp, _⟩ := e.owns j u (by simpa using h2)
        cases hp
    | succ i =>
      obtain ⟨p, _, hp, _⟩ := e.owns i o (by simpa using h1)
      cases hp
theorem start_cons (n : Str) (N : List Str) (v : V) (vs : List V) : L2.start (n :: N) (v :: vs) = some v :: L2.start N vs := by
  unfold L2.start
  rw [List.length_cons, List.length_cons, Nat.add_sub_add_right]
  rfl
theorem init_body {sp : ISp} {vs : List V} {H : Hp} {Q : VK} {E : XK} {t : TS} {n : Str} {N : List Str} (h : spIOf K C sp vs H Q E)
    (hb : ∀ (F : Fr) (as : List SD) (P : List (Str × D) → Prop) (x : Addr), F.E = E → sp as P → WS K F t (.own (.slf x C []) :: startD N as) ⟨fun δ' => ∃ gs, δ'[0]? = some (.own (.slf x C gs)) ∧ P gs, fun _ => False, fun _ => False, fun _ => False, fun _ => False⟩) : t { nx := fun _ H' => Q .non H', rt := Q } (L2.start (n :: N) vs) H := by
  obtain ⟨F, as, P, x, dx, ws, rfl, nx, ndx, ne, rfl, k, eE, av, hs, q⟩ := h
  rw [start_cons]
  have k1 : OkH K F [] (upd F.H0 dx (.own x)) := k.new ndx
  have nx1 : (upd F.H0 dx (.own x)) x = none := by rw [upd_ne (Ne.symm ne)]; exact nx
  refine hb F as P x eE hs (gh F [] F.H0) _ [x] _ _ (k1.newL nx1) ((AVs.start k av).self k nx ndx ne) ?_ ⟨fun L σ H' δ p k' xx s => ?_, fun v H' d p => p.elim, fun L σ H' δ p => p.elim, fun L σ H' δ p => p.elim, fun L p xs H' ds z => z.elim⟩
  · exact Sub.trans (gh_mono k (.of_sub (.upd ndx))) (gh_newL nx1)
  · obtain ⟨gs, h0, pg⟩ := p
    obtain ⟨y, hy, hL, ov⟩ := xx.owns 0 _ h0
    cases ov with
    | slf hx dv =>
      refine q H' _ gs _ pg k'.ext k'.bag hx (dv.mono fun a o e => ?_)
      obtain ⟨h1, h2, h3⟩ := gh_some.mp e
      exact gh_some.mpr ⟨h1, fun z => by rw [List.mem_singleton.mp z] at h2; exact h2 hL, h3⟩
/-! ### a field stored -/
def putG (f : Str) (v : D) : List (Str × D) → List (Str × D)
  | [] => [(f, v)]
  | (g, x) :: r => if g = f then (g, v) :: r else (g, x) :: putG f v r
theorem neq {f g : Str} (h : (f == g) = false) : (f = g) = False := by
  simp only [eq_iff_iff, iff_false]
  intro e
  rw [e, beq_self_eq_true] at h
  cases h
theorem DVf.put {G : Hp} {f : Str} {v : V} {d : D} (h : DV K G v d) : ∀ {vs : List (Str × V)} {ds : List (Str × D)}, DVf K G vs ds → DVf K G (putF f v vs) (putG f d ds)
  | _, _, .nil => .cons h .nil
  | _, _, .cons (f := g) a r => by
    unfold putF putG
    split
    · exact .cons h r
    · exact .cons a (DVf.put h r)
theorem DVf.length {G : Hp} : ∀ {vs : List (Str × V)} {ds : List (Str × D)}, DVf K G vs ds → vs.length = ds.length
  | _, _, .nil => rfl
  | _, _, .cons _ r => congrArg (· + 1) (DVf.length r)
variable {Cc : Cn}
theorem ws_setF {i : Nat} {x : Addr} {gs : List (Str × D)} {f : Str} {tv : TE} (cl : Cls K C) (na : NoAttr K C f) (hi : δ[i]? = some (SD.own (.slf x C gs))) (hl : gs.length ≤ 900) (h : WE K F tv δ fun d => Cc.nx (δ.set i (.own (.slf x C (putG f d gs))))) : WS K F (sFld K (tVar i) tv f) δ Cc :=
  fun G0 E L σ H k xx s e => h L σ H k xx _ fun v H1 d pd e1 k1 dv => by
    obtain ⟨p, h1, h2, h3⟩ := xx.owns i _ hi
    refine ⟨.ref p, h1, ?_⟩
    cases h3 with
    | @slf _ dx fs _ hH hd =>
      have hH1 := (k.keepL e1 _ h2).trans hH
      have hd1 := hd.mono (gh_mono k e1)
      refine ⟨x, C, dx, fs, rfl, hH1, cl, na, by rw [hd.length]; omega, ?_⟩
      refine e.nx L σ _ _ pd (k1.own h2) ((xx.next k e1).updOwn hi h1 h2 (.slf upd_same (hd1.put dv))) ?_
      rw [gh_own h2]
      exact s.trans (gh_mono k e1)
theorem es_setF {i : Nat} {x : Addr} {gs : List (Str × D)} {f : Str} {tv : TE} {v : D} (cl : Cls K C) (na : NoAttr K C f) (hi : δ[i]? = some (SD.own (.slf x C gs))) (hl : gs.length ≤ 900) (h : EV K F tv δ v) (q : Cc.nx (δ.set i (.own (.slf x C (putG f v gs))))) : WS K F (sFld K (tVar i) tv f) δ Cc :=
  ws_setF cl na hi hl (h.we q)
end DL

end
section
/-! further words over data -/
namespace DL
open PySem PySem.Spec PyProof.Rows L2 ClX
variable {K : PySem.W.Frag} {F : Fr} {δ : List SD} {X : Cx} {C : Cn}
theorem ev_to {te : TE} {v u : D} (h : EV K F te δ v) (e : v = u) : EV K F te δ u := e ▸ h
theorem es_drop {te : TE} {v : D} (h : EV K F te δ v) (q : C.nx δ) : WS K F (tDrop te) δ C := ws_drop (h.we q)
/-! readings at a named fragment -/
theorem pe_fldK {e : Expr} {f : Str} {pos : Pos} {ta : TE} (eK : X.K = K) (he : PE X e ta) (hb : attributeBase e f X.env (eval e X.env) = eval e X.env) : PE X (.Attribute e f pos) (tFld K ta f) := eK ▸ pe_fld he hb
theorem ps_fldK {o value : Expr} {f : Str} {pos pos' : Pos} {ta tv : TE} (eK : X.K = K) (ha : PE X o ta) (hv : PE X value tv) (hs : swapsWith value (some (.Attribute o f pos')) pos.line X.env = pure false) : PS X (.Assign [.Attribute o f pos'] value pos) (sFld K ta tv f) := eK ▸ ps_fld ha hv hs
theorem pe_cvalK {e : Expr} {f : Str} {pos : Pos} {ta : TE} (eK : X.K = K) (he : PE X e ta) (hb : attributeBase e f X.env (eval e X.env) = eval e X.env := by rfl) : PE X (.Attribute e f pos) (tCVal K ta f) := eK ▸ pe_cval he hb
/-! enumerate -/
theorem pi_enumK {e : Expr} {ta : TA} {p pos tpos : Pos} {elts : List Expr} {kk : Nat} (eK : X.K = K) (h : PI X (.Tuple elts kk tpos) (.Call (.Name "enumerate" p) [e] [] pos) (iEnum X.K ta)) : PI X (.Tuple elts kk tpos) (.Call (.Name "enumerate" p) [e] [] pos) (iEnum K ta) := eK ▸ h
def enumD (ds : List D) : List D := (ds.zipIdx).map fun p => D.tup [.int (p.2 : Int), p.1]
theorem enumD_length {ds : List D} : (enumD ds).length = ds.length := by simp [enumD]
theorem enumD_get {ds : List D} {i : Nat} {d : D} (h : (enumD ds)[i]? = some d) : ∃ x, ds[i]? = some x ∧ d = .tup [.int (i : Int), x] := by
  unfold enumD at h
  rw [List.getElem?_map, List.getElem?_zipIdx] at h
  cases e : ds[i]? with
  | none => rw [e] at h; simp at h
  | some x =>
    rw [e] at h
    simp at h
    exact ⟨x, rfl, h.symm⟩
theorem wi_enum {ta : TA} {P : List D → Prop} (h : WA K F ta δ fun as => ∃ ds, as = [.val (.lst ds)] ∧ P (enumD ds)) : WI K F (iEnum K ta) δ P := fun L σ H k x R r =>
  h L σ H k x _ fun vs H1 as p e1 k1 av => by
    obtain ⟨ds, rfl, p⟩ := p
    cases av with
    | cons av1 t =>
    cases t
    obtain ⟨a, xs, rfl, h1, h2⟩ := DV.to_lst av1
    refine ⟨a, xs, rfl, sqL (gh_sub _ _ h1), r _ H1 _ p e1 k1 fun L' H' k' s' i => ⟨fun hi => ?_, fun d hd => ?_⟩⟩
    · rw [enumD_length] at hi
      exact ⟨xs, sqL (gh_sub _ _ (s' _ _ h1)), by rw [h2.length]; exact hi⟩
    · obtain ⟨y, hy, rfl⟩ := enumD_get hd
      obtain ⟨v, g1, g2⟩ := h2.get hy
      refine ⟨⟨xs, v, sqL (gh_sub _ _ (s' _ _ h1)), g1⟩, fun z H3 ⟨T, u, e, hT, e3, hu⟩ => ?_⟩
      subst e e3
      have := hu xs (sqL (gh_sub _ _ (s' _ _ h1)))
      rw [g1] at this
      cases this
      have s3 : Ext F.b H' (upd H' T (.tup [.int (i : Nat), v])) := .of_sub (.upd hT)
      exact ⟨s3, k'.new hT, .tup (sqT (gh_new k' hT)) (.cons (.int _) (.cons ((g2.mono s').mono (gh_mono k' s3)) .nil))⟩
theorem ei_enum {ta : TA} {ds : List D} (h : ED K F ta δ [.lst ds]) : EI K F (iEnum K ta) δ (enumD ds) := wi_enum (h.wa ⟨ds, rfl, rfl⟩)
end DL

end
section
/-! new lists that are handed out -/
namespace DL
open PySem L2
variable {K : PySem.W.Frag} {F : Fr} {δ : List SD} {X : Cx} {C : Cn} {P : Program} {w : World}
theorem WN.imp {te : TE} {Q Q' : List D → Prop} (h : WN K F te δ Q) (i : ∀ d, Q d → Q' d) : WN K F te δ Q' := fun L σ H k x R r => h L σ H k x R fun p xs H' ds q => r p xs H' ds (i ds q)
/-- sorted(rows) as a new list -/
theorem wn_sortR {te : TE} {Q : List D → Prop} (h : WE K F te δ fun x => ∃ rows d B, x = .lst (rows.map tupI) ∧ rowsOk d B rows ∧ Q ((srt rows).map tupI)) : WN K F (tCB (rSortedA K P w) (tCons te tNil)) δ Q := fun L σ H k x R c =>
  h L σ H k x _ fun v H1 e p e1 k1 dv => by
    obtain ⟨rows, d, B, rfl, hr, q⟩ := p
    obtain ⟨p, xs, rfl, h1, h2⟩ := dv.to_lst
    refine .inl ⟨d, B, hr.1, p, xs, rfl, sqL (gh_sub _ _ h1), by rw [h2.length, List.length_map]; exact hr.2.1, fun x hx => ?_, fun ys n hp hw hn => ?_⟩
    · obtain ⟨i, hi⟩ := List.getElem?_of_mem hx
      obtain ⟨e, he, hv⟩ := h2.get' hi
      rw [List.getElem?_map] at he
      cases q : rows[i]? with
      | none => rw [q] at he; cases he
      | some ns =>
        rw [q] at he
        cases he
        exact ⟨ns, hv.tupI_inv gh_sub, hr.2.2 ns (List.mem_of_getElem? q)⟩
    · obtain ⟨es, pe, hes⟩ := DVs.perm hp h2
      obtain ⟨ms, rfl, pm⟩ := perm_map unI_tup pe
      have pw : ms.Pairwise (fun a b => TS.code B a ≤ TS.code B b) := by
        have : ∀ {ys : List V} {ms : List (List Int)}, DVs K (gh F L H1) ys (ms.map tupI) → ys.Pairwise (fun x y => ∀ n m, TupI K H1 x n → TupI K H1 y m → TS.code B n ≤ TS.code B m) → ms.Pairwise (fun a b => TS.code B a ≤ TS.code B b) := by
          intro ys ms h
          induction ms generalizing ys with
          | nil => exact fun _ => .nil
          | cons m ms ih =>
            cases h with
            | cons a r =>
              intro w
              cases w with
              | cons w1 w2 =>
                refine .cons (fun b hb => ?_) (ih r w2)
                obtain ⟨i, hi⟩ := List.getElem?_of_mem hb
                obtain ⟨v, g1, g2⟩ := r.get (d := tupI b) (i := i) (by rw [List.getElem?_map, hi]; rfl)
                exact w1 v (List.mem_of_getElem? g1) m b (a.tupI_inv gh_sub) (g2.tupI_inv gh_sub)
        exact this hes hw
      have e : ms = srt rows := srt_eq pm (List.Pairwise.imp_of_mem (fun {a b} ha hb hab => by
        have ha := hr.2.2 a (pm.mem_iff.mp ha)
        have hb := hr.2.2 b (pm.mem_iff.mp hb)
        exact lle_of_code a b (ha.1.trans hb.1.symm) ha.2 hb.2 hab) pw)
      have hn0 : H n = none := k1.before e1 hn
      refine c n _ _ ((srt rows).map tupI) q hn0 (e1.trans (.of_sub (.upd hn))) (k1.newL hn) (k1.notL hn) upd_same ?_ ((gh_mono k e1).trans (gh_newL hn))
      rw [← e]
      exact hes.mono (gh_newL hn)
end DL
namespace DL
open PySem L2
variable {K : PySem.W.Frag} {F : Fr} {δ : List SD} {X : Cx} {C : Cn}
/-- a new list as a value -/
theorem ev_new {te : TE} {ds : List D} (h : WN K F te δ fun es => es = ds) : EV K F te δ (.lst ds) := we_new (h.imp fun es e => by rw [e])
theorem wn_callD {sp : NSp} {ta : TA} {ds : List D} {P : List D → Prop} (ha : ED K F ta δ ds) (h : sp (ds.map SD.val) P) : WN K F (tCall (spNOf K sp) [] E0 ta) δ P := wn_call (ha.wa h)
theorem wn_callN {sp : NSp} {n m : Nat} {gV : List V → List V → List V} {gD : List D → List D → List D} {ta tk : TA} {ds es : List D} {P : List D → Prop} (h1 : ED K F ta δ ds) (h2 : ED K F tk δ es) (hn : ds.length = n) (hm : es.length = m)
    (hg : ∀ G vs zs ds es, DVs K G vs ds → DVs K G zs es → DVs K G (gV vs zs) (gD ds es)) (h : sp ((gD ds es).map SD.val) P) : WN K F (tCallN n m (spNOf K sp) gV E0 ta tk) δ P := fun L σ H k x Q c => by
  refine h1 L σ H k x _ fun vs H1 as e1 x1 k1 av => ?_
  subst e1
  refine h2 L σ H1 k1 (x.next k x1) _ fun zs H2 bs e2 x2 k2 bv => ?_
  subst e2
  have dv := av.vals
  have ev := bv.vals
  exact ⟨dv.length.trans hn, ev.length.trans hm, callN_core k (x1.trans x2) k2 (AVs.of (hg _ _ _ _ _ (dv.mono (gh_mono k1 x2)) ev)) h c⟩
end DL

end
section
/-! own ==, != (by ==), at the library's level and as operators -/
namespace PySem.W
open PySem PySem.Spec PySem.Calls PyProof.Rows
theorem slot_object_ne : Slot "object" "__ne__" "object.__ne__" :=
  .of (owner := "object") (n := "__ne__") (by rw [typeLookup_type, builtinLookup_eq_fast]; kernel_rfl) (by decide +kernel) (by decide +kernel) (by decide +kernel)
    (by first | exact .inl (by decide +kernel) | exact .inr (by decide +kernel)) (by rw [isSubtype_type]; kernel_rfl)
section
variable {prog : Program} {w : World} {A A₀ : Around} {E : Value → Shared → Prop} {s : Shared} {K : Frag} {x C L f : Addr} {h₀ : Heap} {m : Str → Option Value} {ox : Obj} {od : Option Obj} {name : Str} {b tb : Value}
theorem ifBound_B {M : Model} {id : String} {args : List Value} {Q : Option Value → Shared → Prop} (X : K.In s.heap) (I : InstAt s.heap x ox C od) (hs : findIn K (.ref C) name = some (some (.builtin id)))
    (hb : ∀ self, bindSpecial (.builtin id) self = pure (.builtin id, [self])) (h : wpAny M A (call (.builtin id) (.ref x :: args)) (fun v => Q (some v)) E s) : wpAny M A (callSpecialIfBound? (.ref x) name args) Q E s := by
  simp only [callSpecialIfBound?, bindSpecialIfBound?]
  refine wpAny_holding (wpAny_bind (wpAny_bind (wpAny_bind (I.type.here ((looks_findIn X hs).here ?_)))))
  refine wpAny_bind (wpAny_askSetting (wpAny_ite ?_))
  have fin : wpAny M A (call (.builtin id) ([.ref x] ++ args) >>= fun v => pure (some v)) Q E s := wpAny_bind (wpAny_mono h (fun v s' h' => wpAny_pure h') fun _ _ h' => h')
  split
  · exact wpAny_bind ((Looks.of_pure (hb _)).here (wpAny_pure (by exact fin)))
  · exact wpAny_tryCatch (wpAny_bind ((Looks.of_pure (hb _)).here (wpAny_pure (by exact fin))))
open Builtin in
theorem call_ne {Q : Value → Shared → Prop} (hu : A.in1.units < cLine) (X : K.In s.heap) (I : InstAt s.heap x ox C od) (hm : mroIn K C (.type "object") = some true)
    (hs : findIn K (.ref C) "__eq__" = some (some (.ref f))) (hf : isFn K (.ref f) = true)
    (h : wpAny (model prog w) A.in1 (call (.ref f) [.ref x, b]) (fun r s' => ∃ k, r = .bool k ∧ Q (.bool (!k)) s') E s) : wpAny (model prog w) A (call (.builtin "object.__ne__") [.ref x, b]) Q E s := by
  refine wpAny_call (codeAny_call_builtin slot_object_ne.plain PySem.F.cmpEntry_ne (check_slot (i := "object.__ne__") (owner := "object") (n := "__ne__") (by decide +kernel) (by decide +kernel) (I.type.andThen (looks_mroIn X hm)) (PySem.F.cmpArgs_ne _ _) ?_))
  unfold Builtin.«object.__ne__»
  refine wpAny_bind (m := slotArgs "__ne__" 1 _) (wpAny_pure ?_)
  refine wpAny_bind (m := cRoomFor _ _) (wpAny_cRoomFor hu ?_)
  refine wpAny_bind (m := callSpecialIfBound? (.ref x) (Str.ofString "__eq__") _) (ifBound_K X I hs hf (wpAny_mono h (fun r s' hq => ?_) fun _ _ y => y))
  obtain ⟨k, rfl, q⟩ := hq
  exact wpAny_bind (wpAny_of_eq (a := k) rfl (wpAny_pure q))
theorem ne_K {Q : Value → Shared → Prop} (hu : A.in1.units < cLine) (hu0 : A.units < cLine) (F : Fr h₀ L s.heap m) (X₀ : K.In h₀) (I : InstAt s.heap x ox C od) (hb : Looks (model prog w) s.heap (typeOf b) tb) (hn : notFirst K C tb = true)
    (hne : findIn K (.ref C) "__ne__" = some (some (.builtin "object.__ne__"))) (hm : mroIn K C (.type "object") = some true) (hs : findIn K (.ref C) "__eq__" = some (some (.ref f))) (hf : isFn K (.ref f) = true)
    (h : wpAny (model prog w) A.in1 (call (.ref f) [.ref x, b]) (fun r s' => ∃ k, r = .bool k ∧ Q (.bool (!k)) s') E s) : wpAny (model prog w) A (richCompare .NotEq (.ref x) b) Q E s := by
  have X := X₀.keeps F.keep
  have one : wpAny (model prog w) A (tryCompare (.ref x) "__ne__" b) (fun r s' => ∃ v, r = some v ∧ Q v s') E s := by
    unfold tryCompare
    refine wpAny_bind (ifBound_B X I hne slot_object_ne.bind (call_ne hu X I hm hs hf (wpAny_mono h (fun v s' hv => ?_) fun _ _ e => e)))
    obtain ⟨k, rfl, q⟩ := hv
    exact ⟨k, rfl, wpAny_pure ⟨_, rfl, q⟩⟩
  unfold richCompare
  simp only [oneThing_ref]
  refine wpAny_holding (wpAny_bind (wpAny_cRoomFor hu0 ?_))
  refine wpAny_bind (I.type.here (wpAny_bind (hb.here ?_)))
  split
  · rename_i q
    have e : subIn K tb (.ref C) = some false := by
      rcases Bool.or_eq_true_iff.mp hn with e | e
      · rw [beq_iff_eq.mp e] at q; simp at q
      · exact beq_iff_eq.mp e
    refine wpAny_bind ((looks_subIn X e).here ?_)
    simp only [Bool.false_eq_true, if_false]
    refine wpAny_bind (wpAny_mono one (fun r s' z => ?_) fun _ _ e => e)
    obtain ⟨v, rfl, hq⟩ := z
    exact wpAny_pure hq
  · refine wpAny_bind (wpAny_pure ?_)
    simp only [Bool.false_eq_true, if_false]
    refine wpAny_bind (wpAny_mono one (fun r s' z => ?_) fun _ _ e => e)
    obtain ⟨v, rfl, hq⟩ := z
    exact wpAny_pure hq
end
end PySem.W
namespace DLX
open PySem PySem.Spec PyProof.Rows L2
/-- what == of a class of the text needs -/
structure EqC (K : PySem.W.Frag) (C g : Addr) : Prop where
  eq : PySem.W.findIn K (.ref C) "__eq__" = some (some (.ref g))
  fn : PySem.W.isFn K (.ref g) = true
  ne : PySem.W.findIn K (.ref C) "__ne__" = some (some (.builtin "object.__ne__"))
  om : PySem.W.mroIn K C (.type "object") = some true
def rEqOwn (K : PySem.W.Frag) (C : Addr) (neg : Bool) (sp : Sp) (E : XK) : R2 := fun x y H Q => ∃ a dx fs t, x = .ref a ∧ H a = some (.ins C dx fs) ∧ TyX K H y t ∧ PySem.W.notFirst K C t = true ∧ sp [x, y] H (fun v H' => ∃ b, v = .bl b ∧ Q (.bl (if neg then !b else b)) H') E
variable {X : Cx} {CX : CXT} {C g : Addr} {n : Nat} {fd : FuncData} {ps : List Str} {sp : Sp} {E : XK}
theorem run2 {A : Around} {pins : List (Addr × Obj)} {σ : L2.St} {H : Hp} {s : Shared} {x y : V} {u v : Value} {Q : VK} (F : FnOk X.prog X.w X.K X.mg X.base CX n g fd ps sp) (hr : Room n A) (e0 : Env0 X.prog X.w X.K X.mg X.base A X.stack s H) (hb : Binds X.K fd ps []) (hx : Passes CX X E)
    (I : Inv X pins σ H s) (rx : RelV x u) (ry : RelV y v) (h : sp [x, y] H Q E) : wpAny (model X.prog X.w) A (call (.ref g) [u, v]) (EP X pins σ Q) X.xe s := by
  have hl := F.len _ _ _ _ h
  have r2 : Vals [x, y] [u, v] := .cons rx (.cons ry .nil)
  refine wpAny_call (codeAny_mono (F.run A X.stack s H ⟨[u, v], []⟩ [u, v] [x, y] Q E hr e0 (by
    have := hb s [u, v] I.kIn (by simpa using hl)
    simpa using this) r2 h) fun r s' hq => ?_)
  cases r with
  | error e => exact hx pins σ H s e s' I hq
  | ok fl =>
    cases fl with
    | ret w => exact I.after hq
    | next => exact False.elim hq
    | brk => exact False.elim hq
    | cont => exact False.elim hq
theorem op_eqOwn (c : EqC X.K C g) (F : FnOk X.prog X.w X.K X.mg X.base CX n g fd ps sp) (hr : Room n X.A) (hb : Binds X.K fd ps []) (hx : Passes CX X E) : OpR X (compareOp .Eq) (rEqOwn X.K C false sp E) := by
  intro pins s σ H x y v u Q I rx ry h
  obtain ⟨a, dx, fs, t, rfl, ha, ty, hn, q⟩ := h
  cases (show v = Value.ref a from rx)
  obtain ⟨mA, J, _⟩ := ins_get I.hok ha
  obtain ⟨od, J, _⟩ := J.look
  obtain ⟨P, Z, p, _⟩ := kit_of I ry ty
  obtain ⟨m, hF⟩ := I.fr
  show wpAny (model X.prog X.w) X.A (richCompare .Eq (.ref a) u) (EP X pins σ Q) X.xe s
  refine PySem.W.cmp_K (op := .Eq) hr.units0 hF I.ok.mod.kin J (Z.ty _ _ I.kIn p) hn c.eq c.fn ?_
  refine wpAny_mono (run2 F hr I.env0 hb hx I (show RelV (.ref a) (.ref a) from rfl) ry q) (fun w s' z => ?_) fun _ _ e => e
  obtain ⟨z', H', I', rz, b, eb, qz⟩ := z
  subst eb
  cases (show w = Value.bool b from rz)
  exact ⟨.bl b, H', I', rfl, qz⟩
theorem op_neOwn (c : EqC X.K C g) (F : FnOk X.prog X.w X.K X.mg X.base CX n g fd ps sp) (hr : Room (n + 1) X.A) (hb : Binds X.K fd ps []) (hx : Passes CX X E) : OpR X (compareOp .NotEq) (rEqOwn X.K C true sp E) := by
  intro pins s σ H x y v u Q I rx ry h
  obtain ⟨a, dx, fs, t, rfl, ha, ty, hn, q⟩ := h
  cases (show v = Value.ref a from rx)
  obtain ⟨mA, J, _⟩ := ins_get I.hok ha
  obtain ⟨od, J, _⟩ := J.look
  obtain ⟨P, Z, p, _⟩ := kit_of I ry ty
  obtain ⟨m, hF⟩ := I.fr
  show wpAny (model X.prog X.w) X.A (richCompare .NotEq (.ref a) u) (EP X pins σ Q) X.xe s
  refine PySem.W.ne_K hr.in1.units0 hr.units0 hF I.ok.mod.kin J (Z.ty _ _ I.kIn p) hn c.ne c.om c.eq c.fn ?_
  refine wpAny_mono (run2 F hr.in1 I.env0.in1 hb hx I (show RelV (.ref a) (.ref a) from rfl) ry q) (fun w s' z => ?_) fun _ _ e => e
  obtain ⟨z', H', I', rz, b, eb, qz⟩ := z
  subst eb
  cases (show w = Value.bool b from rz)
  exact ⟨b, rfl, .bl (!b), H', I', rfl, qz⟩
end DLX

end
section
/-! own == and !=, isinstance with an own class, methods by keywords, methods with a star -/
namespace DL
open PySem PySem.Spec PyProof.Rows L2 ClX
variable {K : PySem.W.Frag} {F : Fr} {δ : List SD} {X : Cx} {C : Addr}
/-- what the type of an instance needs -/
structure TyC (K : PySem.W.Frag) (C : Addr) : Prop where
  ha : PySem.W.findIn K (.ref C) "__class__" = some (some (.builtin "object.__class__"))
  hn : PySem.W.specialIn K (.builtin "object.__class__") "__get__" = some (some (.builtin "getset_descriptor.__get__"))
  ht : PySem.W.takesIn K (.builtin "object.__class__") = some true
  hm : PySem.W.mroIn K C (.type "object") = some true
theorem tyx_ins {H : Hp} {a dx : Addr} {fs : List (Str × V)} (e : H a = some (.ins C dx fs)) (cl : Cls K C) (t : TyC K C) : TyX K H (.ref a) (.ref C) := .base (.ins e cl t.ha t.hn t.ht t.hm)
theorem rc_isiOwn {gs : List (Str × D)} {P : D → Prop} (cl : Cls K C) (t : TyC K C) (q : P (.bl true)) : RC K F (rIsiA K) [.val (.ins C gs), .val (.raw (.ref C))] P := fun L H vs k a Q c => by
  cases a with
  | cons a1 r =>
  cases r with
  | cons a2 r =>
  cases r
  obtain ⟨p, dx, fs, rfl, h1, h2⟩ := (show DV K _ _ (.ins C gs) from a1).to_ins
  obtain rfl := (show DV K _ _ (.raw (.ref C)) from a2).to_raw
  exact .inl ⟨_, _, _, _, true, rfl, .own C, tyx_ins (gh_sub _ _ h1) cl t, by simp [PySem.W.kitOne], c _ H _ q (Ext.refl _ _) k (.bl true)⟩
theorem cv_isiOwn {gs : List (Str × D)} (cl : Cls K C) (t : TyC K C) : CV K F (rIsiA K) [.ins C gs, .raw (.ref C)] (.bl true) := rc_isiOwn cl t rfl
theorem rd_own {sp : DSp} {neg : Bool} {gs hs : List (Str × D)} {P : D → Prop} (cl : Cls K C) (t : TyC K C) (h : sp [.val (.ins C gs), .val (.ins C hs)] (fun d => ∃ b, d = .bl b ∧ P (.bl (if neg then !b else b))) X0) : RD K F (DLX.rEqOwn K C neg (spOf K sp) E0) (.ins C gs) (.ins C hs) P := fun L H v u k a b Q c => by
  obtain ⟨p, dx, fs, rfl, h1, h2⟩ := id a.to_ins
  obtain ⟨p', dx', fs', rfl, h1', h2'⟩ := id b.to_ins
  refine ⟨p, dx, fs, _, rfl, gh_sub _ _ h1, tyx_ins (gh_sub _ _ h1') cl t, by simp [PySem.W.notFirst], F.call L H E0 X0, _, _, rfl, k.call0, rfl, ?_, h, fun v H' d pd e bg dv => ?_⟩
  · rw [gh_call]
    exact AVs.to (F := F) (F' := F.call L H E0 X0) rfl (.cons (show DV K _ _ _ from a) (.cons (show DV K _ _ _ from b) .nil))
  · obtain ⟨b', rfl, pb⟩ := pd
    cases dv
    exact ⟨b', rfl, c _ H' _ pb e (k.next e bg) (.bl _)⟩
theorem rv_own {sp : DSp} {neg b : Bool} {gs hs : List (Str × D)} (cl : Cls K C) (t : TyC K C) (h : sp [.val (.ins C gs), .val (.ins C hs)] (fun d => d = .bl b) X0) (hm : ∀ P Q : D → Prop, ∀ Y, (∀ d, P d → Q d) → sp [.val (.ins C gs), .val (.ins C hs)] P Y → sp [.val (.ins C gs), .val (.ins C hs)] Q Y) : RV K F (DLX.rEqOwn K C neg (spOf K sp) E0) (.ins C gs) (.ins C hs) (.bl (if neg then !b else b)) :=
  rd_own cl t (hm _ _ _ (fun d e => ⟨b, e, rfl⟩) h)
theorem op_eqOwnK {CX : CXT} {g : Addr} {n : Nat} {fd : FuncData} {ps : List Str} {sp : Sp} {E : XK} (eK : X.K = K) (c : DLX.EqC K C g) (F : FnOk X.prog X.w K X.mg X.base CX n g fd ps sp) (hr : Room n X.A) (hb : Binds K fd ps []) (hx : Passes CX X E) : OpR X (compareOp .Eq) (DLX.rEqOwn K C false sp E) := by
  subst eK
  exact DLX.op_eqOwn c F hr hb hx
theorem op_neOwnK {CX : CXT} {g : Addr} {n : Nat} {fd : FuncData} {ps : List Str} {sp : Sp} {E : XK} (eK : X.K = K) (c : DLX.EqC K C g) (F : FnOk X.prog X.w K X.mg X.base CX n g fd ps sp) (hr : Room (n + 1) X.A) (hb : Binds K fd ps []) (hx : Passes CX X E) : OpR X (compareOp .NotEq) (DLX.rEqOwn K C true sp E) := by
  subst eK
  exact DLX.op_neOwn c F hr hb hx

/-! ### methods by keywords -/
def tMethN (C : Addr) (m : Str) (n j : Nat) (sp : Sp) (gV : List V → List V → List V) (E : XK) (ta : TE) (t tk : TA) : TE := fun σ H Q => ta σ H fun x H1 => ∃ a dx fs, x = .ref a ∧ H1 a = some (.ins C dx fs) ∧ fs.lookup m = none ∧
  t σ H1 fun vs H2 => tk σ H2 fun zs H3 => vs.length + 1 = n ∧ zs.length = j ∧ sp (gV (x :: vs) zs) H3 Q E
section
variable {CX : CXT} {k n : Nat} {f : Addr} {fd : FuncData} {ps ks : List Str} {sp : Sp} {E : XK} {m : Str} {apos pos : Pos} {o e : Expr} {es : List Expr} {kws : List Keyword} {ta : TE} {t tk : TA} {g : List Value → List Value → List Value} {gV : List V → List V → List V}
theorem pe_methN {pl : Sem Bool} (he : PE X o ta) (c : Cls X.K C) (hm : Meth X.K C m f) (F : FnOk X.prog X.w X.K X.mg X.base CX k f fd ps sp) (hr : Room k X.A) (hb : KBn X.K fd ps n ks g gV) (hx : Passes CX X E) (ha : PA X (e :: es) t) (hkw : PK X kws tk)
    (hall : (backToKw pos (keywordEach kws X.env)).all (·.1.isSome) = true := by rfl) (hks : (backToKw pos (keywordEach kws X.env)).filterMap (·.1) = ks := by rfl) (hst : starEach (e :: es) X.env = (false, eval e X.env) :: starEach es X.env := by rfl)
    (hpl : ((backTo pos (starEach (e :: es) X.env)).any (·.1) || (backToKw pos (keywordEach kws X.env)).any (·.1.isNone)) = false := by rfl)
    (ht : eval (.Call (.Attribute o m apos) (e :: es) kws pos) X.env = (do
      let ov ← eval o X.env
      standAt apos.atName
      let (f, first) ← holding [ov] (getMethod ov m pl)
      callWith pos f first (backTo pos (starEach (e :: es) X.env)) (backToKw pos (keywordEach kws X.env))) := by rfl) :
    PE X (.Call (.Attribute o m apos) (e :: es) kws pos) (tMethN C m n ks.length sp gV E ta t tk) := by
  refine ⟨fun pins s σ H Q I h => ?_⟩
  refine PySem.W.methodCall_KW (pl := pl) (thn (he.run pins s σ H _ I h) fun u s1 ⟨x, H1, I1, rx, a, dx, fs, ex, ea, l, q⟩ => ?_) ht
  subst ex
  obtain rfl : u = Value.ref a := rx
  refine getmeth_ok I1 ea c hm l ?_
  refine PySem.W.callWith_KW (first := [.ref a]) (h₀ := X.base) I.ok.mod.kin hm.kp hall (thn (ha.run pos pins s1 σ H1 _ I1 q) fun us s2 ⟨vs, H2, I2, r, q2⟩ => ?_) hpl hst
  refine thn (hkw.run pos pins s2 σ H2 _ I2 q2) fun ws s3 ⟨zs, H3, I3, rz, l1, l2, q3⟩ => ⟨I3.kIn, ?_⟩
  rw [hks]
  exact run_fnN (us := .ref a :: us) (vs := .ref a :: vs) F hr hb hx I3 (.cons rfl r) rz (by simpa using l1) l2 q3
theorem pe_methN0 {pl : Sem Bool} (he : PE X o ta) (c : Cls X.K C) (hm : Meth X.K C m f) (F : FnOk X.prog X.w X.K X.mg X.base CX k f fd ps sp) (hr : Room k X.A) (hb : KBn X.K fd ps n ks g gV) (hx : Passes CX X E) (hkw : PK X kws tk)
    (hall : (backToKw pos (keywordEach kws X.env)).all (·.1.isSome) = true := by rfl) (hks : (backToKw pos (keywordEach kws X.env)).filterMap (·.1) = ks := by rfl)
    (hpl : ((backTo pos (starEach [] X.env)).any (·.1) || (backToKw pos (keywordEach kws X.env)).any (·.1.isNone)) = false := by rfl)
    (ht : eval (.Call (.Attribute o m apos) [] kws pos) X.env = (do
      let ov ← eval o X.env
      standAt apos.atName
      let (f, first) ← holding [ov] (getMethod ov m pl)
      callWith pos f first (backTo pos (starEach [] X.env)) (backToKw pos (keywordEach kws X.env))) := by rfl) :
    PE X (.Call (.Attribute o m apos) [] kws pos) (tMethN C m n ks.length sp gV E ta tNil tk) := by
  refine ⟨fun pins s σ H Q I h => ?_⟩
  refine PySem.W.methodCall_KW (pl := pl) (thn (he.run pins s σ H _ I h) fun u s1 ⟨x, H1, I1, rx, a, dx, fs, ex, ea, l, q⟩ => ?_) ht
  subst ex
  obtain rfl : u = Value.ref a := rx
  refine getmeth_ok I1 ea c hm l ?_
  refine PySem.W.callWith_KW0 (first := [.ref a]) (h₀ := X.base) I.ok.mod.kin hm.kp hall ?_ hpl
  refine thn (hkw.run pos pins s1 σ H1 _ I1 q) fun ws s3 ⟨zs, H3, I3, rz, l1, l2, q3⟩ => ⟨I3.kIn, ?_⟩
  rw [hks]
  exact run_fnN (us := [.ref a]) (vs := [.ref a]) F hr hb hx I3 (.cons rfl .nil) rz (by simpa using l1) l2 q3
end
theorem ev_methN {sp : DSp} {m : Str} {n j : Nat} {gV : List V → List V → List V} {gD : List D → List D → List D} {te : TE} {ta tk : TA} {gs : List (Str × D)} {ds es : List D} {v : D} (h : EV K F te δ (.ins C gs)) (l : gs.lookup m = none) (h1 : ED K F ta δ ds) (h2 : ED K F tk δ es) (hn : ds.length + 1 = n) (hm : es.length = j)
    (hg : ∀ G vs zs ds es, DVs K G vs ds → DVs K G zs es → DVs K G (gV vs zs) (gD ds es)) (hs : sp ((gD (.ins C gs :: ds) es).map SD.val) (fun d => d = v) X0) : EV K F (tMethN C m n j (spOf K sp) gV E0 te ta tk) δ v := fun L σ H k x Q c =>
  h L σ H k x _ fun v0 H1 d e0 e1 k1 dv => by
    subst e0
    obtain ⟨a, dx, fs, rfl, g1, g2⟩ := id dv.to_ins
    refine ⟨a, dx, fs, rfl, gh_sub _ _ g1, g2.lookup_none l, ?_⟩
    refine h1 L σ H1 k1 (x.next k e1) _ fun vs H2 as p2 e2 k2 av => ?_
    subst p2
    refine h2 L σ H2 k2 ((x.next k e1).next k1 e2) _ fun zs H3 bs p3 e3 k3 bv => ?_
    subst p3
    have av' := av.vals
    have bv' := bv.vals
    refine ⟨by rw [av'.length]; exact hn, bv'.length.trans hm, F.call L H3 E0 X0, _, _, rfl, k3.call0, rfl, ?_, hs, fun v H' d pd e b dv => c v H' d pd (((e1.trans e2).trans e3).trans e) (k3.next e b) (by rw [gh_call] at dv; exact dv)⟩
    rw [gh_call]
    refine AVs.to (F := F) (F' := F.call L H3 E0 X0) rfl (AVs.of (hg _ _ _ _ _ (.cons ?_ (av'.mono (gh_mono k2 e3))) bv'))
    exact dv.mono ((gh_mono k1 e2).trans (gh_mono k2 e3))

/-! ### methods with a star: what is left over is a tuple -/
def spStar (K : PySem.W.Frag) (n : Nat) (sp : DSp) : Sp := fun vs H Q E => ∃ ws rest, vs = ws ++ rest ∧ ws.length = n ∧ rest.length ≤ sizeLine ∧ ∀ p, H p = Option.none → spOf K sp (ws ++ [V.ref p]) (upd H p (.tup rest)) Q E
theorem pe_methR0 {CX : CXT} {k : Nat} {f : Addr} {m : Str} {sp : Sp} {E : XK} {o : Expr} {ta : TE} {apos pos : Pos} {pl : Sem Bool} (he : PE X o ta) (c : Cls X.K C) (hm : Meth X.K C m f)
    (F : FnR X.prog X.w X.K X.mg X.base CX k f sp) (hr : Room k X.A) (hx : Passes CX X E)
    (ht : eval (.Call (.Attribute o m apos) [] [] pos) X.env = (do
      let ov ← eval o X.env
      standAt apos.atName
      let (f, first) ← holding [ov] (getMethod ov m pl)
      callWith pos f first (backTo pos (starEach [] X.env)) (backToKw pos (keywordEach [] X.env))) := by rfl) :
    PE X (.Call (.Attribute o m apos) [] [] pos) (tMethR C m sp E ta tNil) := by
  refine ⟨fun pins s σ H Q I h => ?_⟩
  refine PySem.W.methodCall_KW (pl := pl) (thn (he.run pins s σ H _ I h) fun u s1 ⟨x, H1, I1, rx, a, dx, fs, ex, ea, l, q⟩ => ?_) ht
  subst ex
  obtain rfl : u = Value.ref a := rx
  refine getmeth_ok I1 ea c hm l ?_
  exact PySem.W.callWith_K0 (first := [.ref a]) I1.kIn hm.kp (wpAny_call (run_fnR (us := [Value.ref a]) (vs := [V.ref a]) F hr hx I1 (.cons rfl .nil) q))
theorem ev_methR {sp : DSp} {m : Str} {te : TE} {ta : TA} {gs : List (Str × D)} {ds : List D} {v : D} (h : EV K F te δ (.ins C gs)) (l : gs.lookup m = none) (h1 : ED K F ta δ ds) (hl : ds.length ≤ 100000) (hs : sp [.val (.ins C gs), .val (.tup ds)] (fun d => d = v) X0) : EV K F (tMethR C m (spStar K 1 sp) E0 te ta) δ v := fun L σ H k x Q c =>
  h L σ H k x _ fun v0 H1 d e0 e1 k1 dv => by
    subst e0
    obtain ⟨a, dx, fs, rfl, g1, g2⟩ := id dv.to_ins
    refine ⟨a, dx, fs, rfl, gh_sub _ _ g1, g2.lookup_none l, ?_⟩
    refine h1 L σ H1 k1 (x.next k e1) _ fun vs H2 as p2 e2 k2 av => ?_
    subst p2
    have av' := av.vals
    refine ⟨[.ref a], vs, rfl, rfl, by rw [av'.length]; exact Nat.le_trans hl (by decide), fun p hp => ?_⟩
    have s3 : Ext F.b H2 (upd H2 p (.tup vs)) := .of_sub (.upd hp)
    have k3 : OkH K F L (upd H2 p (.tup vs)) := k2.new hp
    refine ⟨F.call L (upd H2 p (.tup vs)) E0 X0, [.val (.ins C gs), .val (.tup ds)], _, rfl, k3.call0, rfl, ?_, hs, fun v H' d pd e b dv => c v H' d pd (((e1.trans e2).trans s3).trans e) (k3.next e b) (by rw [gh_call] at dv; exact dv)⟩
    rw [gh_call]
    refine AVs.to (F := F) (F' := F.call L (upd H2 p (.tup vs)) E0 X0) rfl (.cons ?_ (.cons ?_ .nil))
    · exact (show DV K _ _ _ from dv.mono ((gh_mono k1 e2).trans (gh_mono k2 s3)))
    · exact (show DV K _ _ _ from .tup (sqT (gh_new k2 hp)) (av'.mono (gh_mono k2 s3)))
theorem okStar {P : Program} {w : World} {mg : Str → Option Value} {base : Heap} {x qual pv : Str} {st : Stmt} {f : Addr} {fd : FuncData} {N ps : List Str} {k : Nat} {sp : DSp} (F : L2.Fun K x qual st f fd) (S : FnScope N (ps ++ [pv]) (defScope st))
    (hb : ∀ us rest : List Value, us.length = ps.length → bindArgs fd ⟨us ++ rest, []⟩ = (newTuple rest >>= fun t => pure (ps.zip us ++ [(pv, t)])))
    (hbody : ∀ (cdv : Value) (A : Around) (outer : List Env) (s : Shared) (H : Hp) (vs : List V) (Q : VK) (E : XK), Room k (A.deeper (envOfC qual (defScope st) s.heap.objs.size f cdv)) → spOf K sp vs H Q E →
      ∃ t, PSs (cxOf CX0 P w K mg base N qual (defScope st) f cdv A outer s H E).nox (defBody st) t ∧ t { nx := fun _ H' => Q .non H', rt := Q } (start N vs) H) : FnR P w K mg base CX0 (k + 1) f (spStar K ps.length sp) := by
  obtain ⟨oc, od, kV, doc, pm, an, cdv, ct, osl, rfl, lk, hcd⟩ := F.ex
  refine StX.fn_star lk hcd S StX.cxUp_none hb fun A outer s H vs Q E hr hsp => ?_
  obtain ⟨t, h, q⟩ := hbody cdv A outer s H vs Q E hr hsp
  exact ⟨t, h.nox, q⟩
/-! ### a whole number in a list or tuple of whole numbers -/
theorem inV_ints (i : Int) : ∀ ns : List Int, inV (.int i) (ns.map V.int) = decide (i ∈ ns)
  | [] => rfl
  | n :: ns => by
    have ih := inV_ints i ns
    unfold inV at ih ⊢
    rw [List.map_cons, List.any_cons, ih, Bool.eq_iff_iff]
    simp only [eqV, Bool.or_eq_true, beq_iff_eq, decide_eq_true_eq, List.mem_cons]
    constructor
    · rintro (h | h)
      · exact .inl h.symm
      · exact .inr h
    · rintro (h | h)
      · exact .inl h.symm
      · exact .inr h
theorem flat_ints (ns : List Int) : (ns.map V.int).all flatV = true := by
  rw [List.all_map, List.all_eq_true]
  intro x _
  rfl
theorem rv_inIL {i : Int} {ns : List Int} : RV K F (rInX K) (.int i) (.lst (ns.map D.int)) (.bl (decide (i ∈ ns))) := rd_inX fun L H v u k a b Q c => by
  cases a.to_int
  obtain ⟨p, xs, rfl, h1, h2⟩ := b.to_lst
  obtain rfl := h2.ints
  refine .inl ⟨p, _, rfl, .inl (sqL (gh_sub _ _ h1)), rfl, flat_ints ns, c _ H _ rfl (Ext.refl _ _) k ?_⟩
  rw [inV_ints]
  exact .bl _
theorem rv_ninIL {i : Int} {ns : List Int} : RV K F (rNinX K) (.int i) (.lst (ns.map D.int)) (.bl (!decide (i ∈ ns))) := rd_ninX fun L H v u k a b Q c => by
  cases a.to_int
  obtain ⟨p, xs, rfl, h1, h2⟩ := b.to_lst
  obtain rfl := h2.ints
  refine .inl ⟨p, _, rfl, .inl (sqL (gh_sub _ _ h1)), rfl, flat_ints ns, c _ H _ rfl (Ext.refl _ _) k ?_⟩
  rw [inV_ints]
  exact .bl _
theorem rv_inIT {i : Int} {ns : List Int} : RV K F (rInX K) (.int i) (.tup (ns.map D.int)) (.bl (decide (i ∈ ns))) := rd_inX fun L H v u k a b Q c => by
  cases a.to_int
  obtain ⟨p, xs, rfl, h1, h2⟩ := b.to_tup
  obtain rfl := h2.ints
  refine .inl ⟨p, _, rfl, .inr (gh_sub.t h1), rfl, flat_ints ns, c _ H _ rfl (Ext.refl _ _) k ?_⟩
  rw [inV_ints]
  exact .bl _
theorem rv_ninIT {i : Int} {ns : List Int} : RV K F (rNinX K) (.int i) (.tup (ns.map D.int)) (.bl (!decide (i ∈ ns))) := rd_ninX fun L H v u k a b Q c => by
  cases a.to_int
  obtain ⟨p, xs, rfl, h1, h2⟩ := b.to_tup
  obtain rfl := h2.ints
  refine .inl ⟨p, _, rfl, .inr (gh_sub.t h1), rfl, flat_ints ns, c _ H _ rfl (Ext.refl _ _) k ?_⟩
  rw [inV_ints]
  exact .bl _
end DL

end
namespace L09
open PySem PySem.Spec PyProof.Rows L2 ClX DL
def topS (i : Nat) : Stmt := PySem.Challenge.pw_fooledtest_k09_machines_changed.main.body.getD i (.Pass ⟨0, 0, 0, 0⟩)
abbrev st_is_number : Stmt := topS 11
abbrev N_is_number : List Str := ["value", "least", "most"]
theorem sc_is_number : FnScope N_is_number ["value", "least", "most"] (defScope st_is_number) := ⟨rfl, rfl, rfl, by decide +kernel, rfl, by decide +kernel, by decide +kernel⟩
abbrev st_is_listed : Stmt := topS 12
abbrev N_is_listed : List Str := ["value"]
theorem sc_is_listed : FnScope N_is_listed ["value"] (defScope st_is_listed) := ⟨rfl, rfl, rfl, by decide +kernel, rfl, by decide +kernel, by decide +kernel⟩
abbrev st_is_name : Stmt := topS 20
abbrev N_is_name : List Str := ["value", "sign"]
theorem sc_is_name : FnScope N_is_name ["value"] (defScope st_is_name) := ⟨rfl, rfl, rfl, by decide +kernel, rfl, by decide +kernel, by decide +kernel⟩
abbrev st_is_deed : Stmt := topS 21
abbrev N_is_deed : List Str := ["leaks", "value", "word"]
theorem sc_is_deed : FnScope N_is_deed ["leaks", "value"] (defScope st_is_deed) := ⟨rfl, rfl, rfl, by decide +kernel, rfl, by decide +kernel, by decide +kernel⟩
abbrev st_is_edge : Stmt := topS 23
abbrev N_is_edge : List Str := ["leaks", "nodes", "value", "source", "deed", "target", "label"]
theorem sc_is_edge : FnScope N_is_edge ["leaks", "nodes", "value"] (defScope st_is_edge) := ⟨rfl, rfl, rfl, by decide +kernel, rfl, by decide +kernel, by decide +kernel⟩
abbrev st_is_leaks : Stmt := topS 24
abbrev N_is_leaks : List Str := ["value", "leak"]
theorem sc_is_leaks : FnScope N_is_leaks ["value"] (defScope st_is_leaks) := ⟨rfl, rfl, rfl, by decide +kernel, rfl, by decide +kernel, by decide +kernel⟩
abbrev st_Machine_init : Stmt := inClass (topS 25) 2
abbrev N_Machine_init : List Str := ["self", "leaks", "edges", "start", "nodes", "most", "at", "edge", "used"]
theorem sc_Machine_init : FnScope N_Machine_init ["self", "leaks", "edges", "start", "nodes"] (defScope st_Machine_init) := ⟨rfl, rfl, rfl, by decide +kernel, rfl, by decide +kernel, by decide +kernel⟩
abbrev st_Machine_nodes : Stmt := inClass (topS 25) 4
abbrev N_Machine_nodes : List Str := ["self"]
theorem sc_Machine_nodes : FnScope N_Machine_nodes ["self"] (defScope st_Machine_nodes) := ⟨rfl, rfl, rfl, by decide +kernel, rfl, by decide +kernel, by decide +kernel⟩
abbrev st_Machine_start : Stmt := inClass (topS 25) 5
abbrev N_Machine_start : List Str := ["self"]
theorem sc_Machine_start : FnScope N_Machine_start ["self"] (defScope st_Machine_start) := ⟨rfl, rfl, rfl, by decide +kernel, rfl, by decide +kernel, by decide +kernel⟩
abbrev st_Machine_leaks : Stmt := inClass (topS 25) 6
abbrev N_Machine_leaks : List Str := ["self"]
theorem sc_Machine_leaks : FnScope N_Machine_leaks ["self"] (defScope st_Machine_leaks) := ⟨rfl, rfl, rfl, by decide +kernel, rfl, by decide +kernel, by decide +kernel⟩
abbrev st_Machine_edges : Stmt := inClass (topS 25) 7
abbrev N_Machine_edges : List Str := ["self"]
theorem sc_Machine_edges : FnScope N_Machine_edges ["self"] (defScope st_Machine_edges) := ⟨rfl, rfl, rfl, by decide +kernel, rfl, by decide +kernel, by decide +kernel⟩
abbrev st_Machine_check_edge : Stmt := inClass (topS 25) 8
abbrev N_Machine_check_edge : List Str := ["self", "at"]
theorem sc_Machine_check_edge : FnScope N_Machine_check_edge ["self", "at"] (defScope st_Machine_check_edge) := ⟨rfl, rfl, rfl, by decide +kernel, rfl, by decide +kernel, by decide +kernel⟩
abbrev st_Machine_check_node : Stmt := inClass (topS 25) 9
abbrev N_Machine_check_node : List Str := ["self", "node"]
theorem sc_Machine_check_node : FnScope N_Machine_check_node ["self", "node"] (defScope st_Machine_check_node) := ⟨rfl, rfl, rfl, by decide +kernel, rfl, by decide +kernel, by decide +kernel⟩
abbrev st_Machine_content : Stmt := inClass (topS 25) 19
abbrev N_Machine_content : List Str := ["self"]
theorem sc_Machine_content : FnScope N_Machine_content ["self"] (defScope st_Machine_content) := ⟨rfl, rfl, rfl, by decide +kernel, rfl, by decide +kernel, by decide +kernel⟩
abbrev st_Machine_eq : Stmt := inClass (topS 25) 20
abbrev N_Machine_eq : List Str := ["self", "other"]
theorem sc_Machine_eq : FnScope N_Machine_eq ["self", "other"] (defScope st_Machine_eq) := ⟨rfl, rfl, rfl, by decide +kernel, rfl, by decide +kernel, by decide +kernel⟩
abbrev st_Machine_with_edges : Stmt := inClass (topS 25) 13
abbrev N_Machine_with_edges : List Str := ["self", "edges"]
theorem sc_Machine_with_edges : FnScope N_Machine_with_edges ["self", "edges"] (defScope st_Machine_with_edges) := ⟨rfl, rfl, rfl, by decide +kernel, rfl, by decide +kernel, by decide +kernel⟩
abbrev st_Machine_barred : Stmt := inClass (topS 25) 14
abbrev N_Machine_barred : List Str := ["self", "edges", "at", "edge"]
theorem sc_Machine_barred : FnScope N_Machine_barred ["self", "edges"] (defScope st_Machine_barred) := ⟨rfl, rfl, rfl, by decide +kernel, rfl, by decide +kernel, by decide +kernel⟩
abbrev st_Machine_with_edge : Stmt := inClass (topS 25) 15
abbrev N_Machine_with_edge : List Str := ["self", "edge"]
theorem sc_Machine_with_edge : FnScope N_Machine_with_edge ["self", "edge"] (defScope st_Machine_with_edge) := ⟨rfl, rfl, rfl, by decide +kernel, rfl, by decide +kernel, by decide +kernel⟩
abbrev st_Machine_begun : Stmt := inClass (topS 25) 16
abbrev N_Machine_begun : List Str := ["self", "start"]
theorem sc_Machine_begun : FnScope N_Machine_begun ["self", "start"] (defScope st_Machine_begun) := ⟨rfl, rfl, rfl, by decide +kernel, rfl, by decide +kernel, by decide +kernel⟩
abbrev st_law_bag : Stmt := topS 31
abbrev N_law_bag : List Str := ["_law_script", "_law_seed", "_law_cell"]
theorem sc_law_bag : FnScope N_law_bag ["_law_script"] (defScope st_law_bag) := ⟨rfl, rfl, rfl, by decide +kernel, rfl, by decide +kernel, by decide +kernel⟩
abbrev st_law_pull : Stmt := topS 32
abbrev N_law_pull : List Str := ["_law_bag_here", "_law_many", "_law_cell", "_law_digit", "_law_square"]
theorem sc_law_pull : FnScope N_law_pull ["_law_bag_here", "_law_many"] (defScope st_law_pull) := ⟨rfl, rfl, rfl, by decide +kernel, rfl, by decide +kernel, by decide +kernel⟩
abbrev st_law_pick : Stmt := topS 33
abbrev N_law_pick : List Str := ["_law_bag_here", "_law_row"]
theorem sc_law_pick : FnScope N_law_pick ["_law_bag_here", "_law_row"] (defScope st_law_pick) := ⟨rfl, rfl, rfl, by decide +kernel, rfl, by decide +kernel, by decide +kernel⟩
abbrev st_law_same : Stmt := topS 34
abbrev N_law_same : List Str := ["_law_found", "_law_due", "_law_one", "_law_other"]
theorem sc_law_same : FnScope N_law_same ["_law_found", "_law_due"] (defScope st_law_same) := ⟨rfl, rfl, rfl, by decide +kernel, rfl, by decide +kernel, by decide +kernel⟩
abbrev st_law_leaks : Stmt := topS 35
abbrev N_law_leaks : List Str := ["_law_bag_here", "_law_most", "_law_k"]
theorem sc_law_leaks : FnScope N_law_leaks ["_law_bag_here", "_law_most"] (defScope st_law_leaks) := ⟨rfl, rfl, rfl, by decide +kernel, rfl, by decide +kernel, by decide +kernel⟩
abbrev st_law_deed : Stmt := topS 36
abbrev N_law_deed : List Str := ["_law_bag_here", "_law_leaks_here", "_law_most", "_law_many", "_law_word", "_law_one"]
theorem sc_law_deed : FnScope N_law_deed ["_law_bag_here", "_law_leaks_here", "_law_most"] (defScope st_law_deed) := ⟨rfl, rfl, rfl, by decide +kernel, rfl, by decide +kernel, by decide +kernel⟩
abbrev st_law_model : Stmt := topS 37
abbrev N_law_model : List Str := ["_law_bag_here", "_law_width", "_law_nodes_z", "_law_edges", "_law_most", "_law_leaks_here", "_law_many", "_law_rows", "_law_k", "_law_label"]
theorem sc_law_model : FnScope N_law_model ["_law_bag_here", "_law_width", "_law_nodes_z", "_law_edges", "_law_most"] (defScope st_law_model) := ⟨rfl, rfl, rfl, by decide +kernel, rfl, by decide +kernel, by decide +kernel⟩
abbrev st_law_made : Stmt := topS 38
abbrev N_law_made : List Str := ["_law_model_here"]
theorem sc_law_made : FnScope N_law_made ["_law_model_here"] (defScope st_law_made) := ⟨rfl, rfl, rfl, by decide +kernel, rfl, by decide +kernel, by decide +kernel⟩
abbrev st_law : Stmt := topS 39
abbrev N_law : List Str := ["_law_script", "_law_bag_here", "_law_turn", "_law_model_here", "_law_leaks_here", "_law_edges", "_law_start_z", "_law_nodes_z", "_law_made_here", "_law_many", "_law_out", "_law_k", "_law_left", "_law_at", "_law_late", "_law_fresh", "_law_more", "_law_twice", "_law_node"]
theorem sc_law : FnScope N_law ["_law_script"] (defScope st_law) := ⟨rfl, rfl, rfl, by decide +kernel, rfl, by decide +kernel, by decide +kernel⟩
abbrev rows_LENGTHS : List (Str × Int) := [("skip", 1), ("add", 3), ("take", 3), ("clear", 2), ("pour", 3), ("test", 2)]
theorem ne_Machine_own_leaks_own_edges : (("own_leaks" : Str) == ("own_edges" : Str)) = false := by decide +kernel
theorem ne_Machine_own_leaks_own_start : (("own_leaks" : Str) == ("own_start" : Str)) = false := by decide +kernel
theorem ne_Machine_own_leaks_own_nodes : (("own_leaks" : Str) == ("own_nodes" : Str)) = false := by decide +kernel
theorem ne_Machine_own_edges_own_leaks : (("own_edges" : Str) == ("own_leaks" : Str)) = false := by decide +kernel
theorem ne_Machine_own_edges_own_start : (("own_edges" : Str) == ("own_start" : Str)) = false := by decide +kernel
theorem ne_Machine_own_edges_own_nodes : (("own_edges" : Str) == ("own_nodes" : Str)) = false := by decide +kernel
theorem ne_Machine_own_start_own_leaks : (("own_start" : Str) == ("own_leaks" : Str)) = false := by decide +kernel
theorem ne_Machine_own_start_own_edges : (("own_start" : Str) == ("own_edges" : Str)) = false := by decide +kernel
theorem ne_Machine_own_start_own_nodes : (("own_start" : Str) == ("own_nodes" : Str)) = false := by decide +kernel
theorem ne_Machine_own_nodes_own_leaks : (("own_nodes" : Str) == ("own_leaks" : Str)) = false := by decide +kernel
theorem ne_Machine_own_nodes_own_edges : (("own_nodes" : Str) == ("own_edges" : Str)) = false := by decide +kernel
theorem ne_Machine_own_nodes_own_start : (("own_nodes" : Str) == ("own_start" : Str)) = false := by decide +kernel
theorem ne_Machine___eq___own_leaks : (("__eq__" : Str) == ("own_leaks" : Str)) = false := by decide +kernel
theorem ne_Machine___eq___own_edges : (("__eq__" : Str) == ("own_edges" : Str)) = false := by decide +kernel
theorem ne_Machine___eq___own_start : (("__eq__" : Str) == ("own_start" : Str)) = false := by decide +kernel
theorem ne_Machine___eq___own_nodes : (("__eq__" : Str) == ("own_nodes" : Str)) = false := by decide +kernel
theorem ne_Machine___init___own_leaks : (("__init__" : Str) == ("own_leaks" : Str)) = false := by decide +kernel
theorem ne_Machine___init___own_edges : (("__init__" : Str) == ("own_edges" : Str)) = false := by decide +kernel
theorem ne_Machine___init___own_start : (("__init__" : Str) == ("own_start" : Str)) = false := by decide +kernel
theorem ne_Machine___init___own_nodes : (("__init__" : Str) == ("own_nodes" : Str)) = false := by decide +kernel
theorem ne_Machine_barred_own_leaks : (("barred" : Str) == ("own_leaks" : Str)) = false := by decide +kernel
theorem ne_Machine_barred_own_edges : (("barred" : Str) == ("own_edges" : Str)) = false := by decide +kernel
theorem ne_Machine_barred_own_start : (("barred" : Str) == ("own_start" : Str)) = false := by decide +kernel
theorem ne_Machine_barred_own_nodes : (("barred" : Str) == ("own_nodes" : Str)) = false := by decide +kernel
theorem ne_Machine_begun_own_leaks : (("begun" : Str) == ("own_leaks" : Str)) = false := by decide +kernel
theorem ne_Machine_begun_own_edges : (("begun" : Str) == ("own_edges" : Str)) = false := by decide +kernel
theorem ne_Machine_begun_own_start : (("begun" : Str) == ("own_start" : Str)) = false := by decide +kernel
theorem ne_Machine_begun_own_nodes : (("begun" : Str) == ("own_nodes" : Str)) = false := by decide +kernel
theorem ne_Machine_check_edge_own_leaks : (("check_edge" : Str) == ("own_leaks" : Str)) = false := by decide +kernel
theorem ne_Machine_check_edge_own_edges : (("check_edge" : Str) == ("own_edges" : Str)) = false := by decide +kernel
theorem ne_Machine_check_edge_own_start : (("check_edge" : Str) == ("own_start" : Str)) = false := by decide +kernel
theorem ne_Machine_check_edge_own_nodes : (("check_edge" : Str) == ("own_nodes" : Str)) = false := by decide +kernel
theorem ne_Machine_check_node_own_leaks : (("check_node" : Str) == ("own_leaks" : Str)) = false := by decide +kernel
theorem ne_Machine_check_node_own_edges : (("check_node" : Str) == ("own_edges" : Str)) = false := by decide +kernel
theorem ne_Machine_check_node_own_start : (("check_node" : Str) == ("own_start" : Str)) = false := by decide +kernel
theorem ne_Machine_check_node_own_nodes : (("check_node" : Str) == ("own_nodes" : Str)) = false := by decide +kernel
theorem ne_Machine_content_own_leaks : (("content" : Str) == ("own_leaks" : Str)) = false := by decide +kernel
theorem ne_Machine_content_own_edges : (("content" : Str) == ("own_edges" : Str)) = false := by decide +kernel
theorem ne_Machine_content_own_start : (("content" : Str) == ("own_start" : Str)) = false := by decide +kernel
theorem ne_Machine_content_own_nodes : (("content" : Str) == ("own_nodes" : Str)) = false := by decide +kernel
theorem ne_Machine_edges_own_leaks : (("edges" : Str) == ("own_leaks" : Str)) = false := by decide +kernel
theorem ne_Machine_edges_own_edges : (("edges" : Str) == ("own_edges" : Str)) = false := by decide +kernel
theorem ne_Machine_edges_own_start : (("edges" : Str) == ("own_start" : Str)) = false := by decide +kernel
theorem ne_Machine_edges_own_nodes : (("edges" : Str) == ("own_nodes" : Str)) = false := by decide +kernel
theorem ne_Machine_leaks_own_leaks : (("leaks" : Str) == ("own_leaks" : Str)) = false := by decide +kernel
theorem ne_Machine_leaks_own_edges : (("leaks" : Str) == ("own_edges" : Str)) = false := by decide +kernel
theorem ne_Machine_leaks_own_start : (("leaks" : Str) == ("own_start" : Str)) = false := by decide +kernel
theorem ne_Machine_leaks_own_nodes : (("leaks" : Str) == ("own_nodes" : Str)) = false := by decide +kernel
theorem ne_Machine_with_edge_own_leaks : (("with_edge" : Str) == ("own_leaks" : Str)) = false := by decide +kernel
theorem ne_Machine_with_edge_own_edges : (("with_edge" : Str) == ("own_edges" : Str)) = false := by decide +kernel
theorem ne_Machine_with_edge_own_start : (("with_edge" : Str) == ("own_start" : Str)) = false := by decide +kernel
theorem ne_Machine_with_edge_own_nodes : (("with_edge" : Str) == ("own_nodes" : Str)) = false := by decide +kernel
theorem ne_Machine_with_edges_own_leaks : (("with_edges" : Str) == ("own_leaks" : Str)) = false := by decide +kernel
theorem ne_Machine_with_edges_own_edges : (("with_edges" : Str) == ("own_edges" : Str)) = false := by decide +kernel
theorem ne_Machine_with_edges_own_start : (("with_edges" : Str) == ("own_start" : Str)) = false := by decide +kernel
theorem ne_Machine_with_edges_own_nodes : (("with_edges" : Str) == ("own_nodes" : Str)) = false := by decide +kernel
theorem lk_Machine_own_leaks {a0 a1 a2 a3 : D} : List.lookup ("own_leaks" : Str) (([("own_leaks", a0), ("own_edges", a1), ("own_start", a2), ("own_nodes", a3)] : List (Str × D)) : List (Str × D)) = some a0 := by simp only [List.lookup_cons, beq_self_eq_true]
theorem pg_Machine_own_leaks {a0 : D} : putG ("own_leaks" : Str) a0 (([] : List (Str × D)) : List (Str × D)) = ([("own_leaks", a0)] : List (Str × D)) := by simp only [putG, if_false, Bool.false_eq_true]
theorem lk_Machine_own_edges {a0 a1 a2 a3 : D} : List.lookup ("own_edges" : Str) (([("own_leaks", a0), ("own_edges", a1), ("own_start", a2), ("own_nodes", a3)] : List (Str × D)) : List (Str × D)) = some a1 := by simp only [List.lookup_cons, beq_self_eq_true, ne_Machine_own_edges_own_leaks]
theorem pg_Machine_own_edges {a0 a1 : D} : putG ("own_edges" : Str) a1 (([("own_leaks", a0)] : List (Str × D)) : List (Str × D)) = ([("own_leaks", a0), ("own_edges", a1)] : List (Str × D)) := by simp only [putG, neq (ne_Machine_own_leaks_own_edges), if_false, Bool.false_eq_true]
theorem lk_Machine_own_start {a0 a1 a2 a3 : D} : List.lookup ("own_start" : Str) (([("own_leaks", a0), ("own_edges", a1), ("own_start", a2), ("own_nodes", a3)] : List (Str × D)) : List (Str × D)) = some a2 := by simp only [List.lookup_cons, beq_self_eq_true, ne_Machine_own_start_own_leaks, ne_Machine_own_start_own_edges]
theorem pg_Machine_own_start {a0 a1 a2 : D} : putG ("own_start" : Str) a2 (([("own_leaks", a0), ("own_edges", a1)] : List (Str × D)) : List (Str × D)) = ([("own_leaks", a0), ("own_edges", a1), ("own_start", a2)] : List (Str × D)) := by simp only [putG, neq (ne_Machine_own_leaks_own_start), neq (ne_Machine_own_edges_own_start), if_false, Bool.false_eq_true]
theorem lk_Machine_own_nodes {a0 a1 a2 a3 : D} : List.lookup ("own_nodes" : Str) (([("own_leaks", a0), ("own_edges", a1), ("own_start", a2), ("own_nodes", a3)] : List (Str × D)) : List (Str × D)) = some a3 := by simp only [List.lookup_cons, beq_self_eq_true, ne_Machine_own_nodes_own_leaks, ne_Machine_own_nodes_own_edges, ne_Machine_own_nodes_own_start]
theorem pg_Machine_own_nodes {a0 a1 a2 a3 : D} : putG ("own_nodes" : Str) a3 (([("own_leaks", a0), ("own_edges", a1), ("own_start", a2)] : List (Str × D)) : List (Str × D)) = ([("own_leaks", a0), ("own_edges", a1), ("own_start", a2), ("own_nodes", a3)] : List (Str × D)) := by simp only [putG, neq (ne_Machine_own_leaks_own_nodes), neq (ne_Machine_own_edges_own_nodes), neq (ne_Machine_own_start_own_nodes), if_false, Bool.false_eq_true]
theorem lk_Machine_eq {a0 a1 a2 a3 : D} : List.lookup ("__eq__" : Str) (([("own_leaks", a0), ("own_edges", a1), ("own_start", a2), ("own_nodes", a3)] : List (Str × D)) : List (Str × D)) = none := by simp only [List.lookup_cons, List.lookup_nil, ne_Machine___eq___own_leaks, ne_Machine___eq___own_edges, ne_Machine___eq___own_start, ne_Machine___eq___own_nodes]
theorem lk_Machine_init {a0 a1 a2 a3 : D} : List.lookup ("__init__" : Str) (([("own_leaks", a0), ("own_edges", a1), ("own_start", a2), ("own_nodes", a3)] : List (Str × D)) : List (Str × D)) = none := by simp only [List.lookup_cons, List.lookup_nil, ne_Machine___init___own_leaks, ne_Machine___init___own_edges, ne_Machine___init___own_start, ne_Machine___init___own_nodes]
theorem lk_Machine_barred {a0 a1 a2 a3 : D} : List.lookup ("barred" : Str) (([("own_leaks", a0), ("own_edges", a1), ("own_start", a2), ("own_nodes", a3)] : List (Str × D)) : List (Str × D)) = none := by simp only [List.lookup_cons, List.lookup_nil, ne_Machine_barred_own_leaks, ne_Machine_barred_own_edges, ne_Machine_barred_own_start, ne_Machine_barred_own_nodes]
theorem lk_Machine_begun {a0 a1 a2 a3 : D} : List.lookup ("begun" : Str) (([("own_leaks", a0), ("own_edges", a1), ("own_start", a2), ("own_nodes", a3)] : List (Str × D)) : List (Str × D)) = none := by simp only [List.lookup_cons, List.lookup_nil, ne_Machine_begun_own_leaks, ne_Machine_begun_own_edges, ne_Machine_begun_own_start, ne_Machine_begun_own_nodes]
theorem lk_Machine_check_edge {a0 a1 a2 a3 : D} : List.lookup ("check_edge" : Str) (([("own_leaks", a0), ("own_edges", a1), ("own_start", a2), ("own_nodes", a3)] : List (Str × D)) : List (Str × D)) = none := by simp only [List.lookup_cons, List.lookup_nil, ne_Machine_check_edge_own_leaks, ne_Machine_check_edge_own_edges, ne_Machine_check_edge_own_start, ne_Machine_check_edge_own_nodes]
theorem lk_Machine_check_node {a0 a1 a2 a3 : D} : List.lookup ("check_node" : Str) (([("own_leaks", a0), ("own_edges", a1), ("own_start", a2), ("own_nodes", a3)] : List (Str × D)) : List (Str × D)) = none := by simp only [List.lookup_cons, List.lookup_nil, ne_Machine_check_node_own_leaks, ne_Machine_check_node_own_edges, ne_Machine_check_node_own_start, ne_Machine_check_node_own_nodes]
theorem lk_Machine_content {a0 a1 a2 a3 : D} : List.lookup ("content" : Str) (([("own_leaks", a0), ("own_edges", a1), ("own_start", a2), ("own_nodes", a3)] : List (Str × D)) : List (Str × D)) = none := by simp only [List.lookup_cons, List.lookup_nil, ne_Machine_content_own_leaks, ne_Machine_content_own_edges, ne_Machine_content_own_start, ne_Machine_content_own_nodes]
theorem lk_Machine_edges {a0 a1 a2 a3 : D} : List.lookup ("edges" : Str) (([("own_leaks", a0), ("own_edges", a1), ("own_start", a2), ("own_nodes", a3)] : List (Str × D)) : List (Str × D)) = none := by simp only [List.lookup_cons, List.lookup_nil, ne_Machine_edges_own_leaks, ne_Machine_edges_own_edges, ne_Machine_edges_own_start, ne_Machine_edges_own_nodes]
theorem lk_Machine_leaks {a0 a1 a2 a3 : D} : List.lookup ("leaks" : Str) (([("own_leaks", a0), ("own_edges", a1), ("own_start", a2), ("own_nodes", a3)] : List (Str × D)) : List (Str × D)) = none := by simp only [List.lookup_cons, List.lookup_nil, ne_Machine_leaks_own_leaks, ne_Machine_leaks_own_edges, ne_Machine_leaks_own_start, ne_Machine_leaks_own_nodes]
theorem lk_Machine_with_edge {a0 a1 a2 a3 : D} : List.lookup ("with_edge" : Str) (([("own_leaks", a0), ("own_edges", a1), ("own_start", a2), ("own_nodes", a3)] : List (Str × D)) : List (Str × D)) = none := by simp only [List.lookup_cons, List.lookup_nil, ne_Machine_with_edge_own_leaks, ne_Machine_with_edge_own_edges, ne_Machine_with_edge_own_start, ne_Machine_with_edge_own_nodes]
theorem lk_Machine_with_edges {a0 a1 a2 a3 : D} : List.lookup ("with_edges" : Str) (([("own_leaks", a0), ("own_edges", a1), ("own_start", a2), ("own_nodes", a3)] : List (Str × D)) : List (Str × D)) = none := by simp only [List.lookup_cons, List.lookup_nil, ne_Machine_with_edges_own_leaks, ne_Machine_with_edges_own_edges, ne_Machine_with_edges_own_start, ne_Machine_with_edges_own_nodes]
structure Txt (w : World) (K : PySem.W.Frag) (mg : Str → Option Value) where
  a_is_number : Addr
  d_is_number : FuncData
  F_is_number : FunD K "is_number" "is_number" (defArgs st_is_number) (defBody st_is_number) (defScope st_is_number) [.non] [] a_is_number d_is_number
  g_is_number : mg "is_number" = some (.ref a_is_number)
  b_is_number : Binds K d_is_number ["value", "least", "most"] []
  a_is_listed : Addr
  d_is_listed : FuncData
  F_is_listed : Fun K "is_listed" "is_listed" st_is_listed a_is_listed d_is_listed
  g_is_listed : mg "is_listed" = some (.ref a_is_listed)
  b_is_listed : Binds K d_is_listed ["value"] []
  a_is_name : Addr
  d_is_name : FuncData
  F_is_name : Fun K "is_name" "is_name" st_is_name a_is_name d_is_name
  g_is_name : mg "is_name" = some (.ref a_is_name)
  b_is_name : Binds K d_is_name ["value"] []
  a_is_deed : Addr
  d_is_deed : FuncData
  F_is_deed : Fun K "is_deed" "is_deed" st_is_deed a_is_deed d_is_deed
  g_is_deed : mg "is_deed" = some (.ref a_is_deed)
  b_is_deed : Binds K d_is_deed ["leaks", "value"] []
  a_is_edge : Addr
  d_is_edge : FuncData
  F_is_edge : Fun K "is_edge" "is_edge" st_is_edge a_is_edge d_is_edge
  g_is_edge : mg "is_edge" = some (.ref a_is_edge)
  b_is_edge : Binds K d_is_edge ["leaks", "nodes", "value"] []
  a_is_leaks : Addr
  d_is_leaks : FuncData
  F_is_leaks : Fun K "is_leaks" "is_leaks" st_is_leaks a_is_leaks d_is_leaks
  g_is_leaks : mg "is_leaks" = some (.ref a_is_leaks)
  b_is_leaks : Binds K d_is_leaks ["value"] []
  a_Machine_init : Addr
  d_Machine_init : FuncData
  F_Machine_init : FunD K "__init__" "Machine.__init__" (defArgs st_Machine_init) (defBody st_Machine_init) (defScope st_Machine_init) [] [("start", .int 0), ("nodes", .non)] a_Machine_init d_Machine_init
  a_Machine_nodes : Addr
  d_Machine_nodes : FuncData
  F_Machine_nodes : Fun K "nodes" "Machine.nodes" st_Machine_nodes a_Machine_nodes d_Machine_nodes
  b_Machine_nodes : Binds K d_Machine_nodes ["self"] []
  a_Machine_start : Addr
  d_Machine_start : FuncData
  F_Machine_start : Fun K "start" "Machine.start" st_Machine_start a_Machine_start d_Machine_start
  b_Machine_start : Binds K d_Machine_start ["self"] []
  a_Machine_leaks : Addr
  d_Machine_leaks : FuncData
  F_Machine_leaks : Fun K "leaks" "Machine.leaks" st_Machine_leaks a_Machine_leaks d_Machine_leaks
  b_Machine_leaks : Binds K d_Machine_leaks ["self"] []
  a_Machine_edges : Addr
  d_Machine_edges : FuncData
  F_Machine_edges : Fun K "edges" "Machine.edges" st_Machine_edges a_Machine_edges d_Machine_edges
  b_Machine_edges : Binds K d_Machine_edges ["self"] []
  a_Machine_check_edge : Addr
  d_Machine_check_edge : FuncData
  F_Machine_check_edge : Fun K "check_edge" "Machine.check_edge" st_Machine_check_edge a_Machine_check_edge d_Machine_check_edge
  b_Machine_check_edge : Binds K d_Machine_check_edge ["self", "at"] []
  a_Machine_check_node : Addr
  d_Machine_check_node : FuncData
  F_Machine_check_node : Fun K "check_node" "Machine.check_node" st_Machine_check_node a_Machine_check_node d_Machine_check_node
  b_Machine_check_node : Binds K d_Machine_check_node ["self", "node"] []
  a_Machine_content : Addr
  d_Machine_content : FuncData
  F_Machine_content : Fun K "content" "Machine.content" st_Machine_content a_Machine_content d_Machine_content
  b_Machine_content : Binds K d_Machine_content ["self"] []
  a_Machine_eq : Addr
  d_Machine_eq : FuncData
  F_Machine_eq : Fun K "__eq__" "Machine.__eq__" st_Machine_eq a_Machine_eq d_Machine_eq
  b_Machine_eq : Binds K d_Machine_eq ["self", "other"] []
  a_Machine_with_edges : Addr
  d_Machine_with_edges : FuncData
  F_Machine_with_edges : Fun K "with_edges" "Machine.with_edges" st_Machine_with_edges a_Machine_with_edges d_Machine_with_edges
  b_Machine_with_edges : Binds K d_Machine_with_edges ["self", "edges"] []
  a_Machine_barred : Addr
  d_Machine_barred : FuncData
  F_Machine_barred : Fun K "barred" "Machine.barred" st_Machine_barred a_Machine_barred d_Machine_barred
  bs_Machine_barred : ∀ us rest : List Value, us.length = (["self"] : List Str).length → bindArgs d_Machine_barred ⟨us ++ rest, []⟩ = (newTuple rest >>= fun t => pure ((["self"] : List Str).zip us ++ [(("edges" : Str), t)]))
  a_Machine_with_edge : Addr
  d_Machine_with_edge : FuncData
  F_Machine_with_edge : Fun K "with_edge" "Machine.with_edge" st_Machine_with_edge a_Machine_with_edge d_Machine_with_edge
  b_Machine_with_edge : Binds K d_Machine_with_edge ["self", "edge"] []
  a_Machine_begun : Addr
  d_Machine_begun : FuncData
  F_Machine_begun : Fun K "begun" "Machine.begun" st_Machine_begun a_Machine_begun d_Machine_begun
  b_Machine_begun : Binds K d_Machine_begun ["self", "start"] []
  a_law_bag : Addr
  d_law_bag : FuncData
  F_law_bag : Fun K "_law_bag" "_law_bag" st_law_bag a_law_bag d_law_bag
  g_law_bag : mg "_law_bag" = some (.ref a_law_bag)
  b_law_bag : Binds K d_law_bag ["_law_script"] []
  a_law_pull : Addr
  d_law_pull : FuncData
  F_law_pull : Fun K "_law_pull" "_law_pull" st_law_pull a_law_pull d_law_pull
  g_law_pull : mg "_law_pull" = some (.ref a_law_pull)
  b_law_pull : Binds K d_law_pull ["_law_bag_here", "_law_many"] []
  a_law_pick : Addr
  d_law_pick : FuncData
  F_law_pick : Fun K "_law_pick" "_law_pick" st_law_pick a_law_pick d_law_pick
  g_law_pick : mg "_law_pick" = some (.ref a_law_pick)
  b_law_pick : Binds K d_law_pick ["_law_bag_here", "_law_row"] []
  a_law_same : Addr
  d_law_same : FuncData
  F_law_same : Fun K "_law_same" "_law_same" st_law_same a_law_same d_law_same
  g_law_same : mg "_law_same" = some (.ref a_law_same)
  b_law_same : Binds K d_law_same ["_law_found", "_law_due"] []
  a_law_leaks : Addr
  d_law_leaks : FuncData
  F_law_leaks : Fun K "_law_leaks" "_law_leaks" st_law_leaks a_law_leaks d_law_leaks
  g_law_leaks : mg "_law_leaks" = some (.ref a_law_leaks)
  b_law_leaks : Binds K d_law_leaks ["_law_bag_here", "_law_most"] []
  a_law_deed : Addr
  d_law_deed : FuncData
  F_law_deed : Fun K "_law_deed" "_law_deed" st_law_deed a_law_deed d_law_deed
  g_law_deed : mg "_law_deed" = some (.ref a_law_deed)
  b_law_deed : Binds K d_law_deed ["_law_bag_here", "_law_leaks_here", "_law_most"] []
  a_law_model : Addr
  d_law_model : FuncData
  F_law_model : Fun K "_law_model" "_law_model" st_law_model a_law_model d_law_model
  g_law_model : mg "_law_model" = some (.ref a_law_model)
  b_law_model : Binds K d_law_model ["_law_bag_here", "_law_width", "_law_nodes_z", "_law_edges", "_law_most"] []
  a_law_made : Addr
  d_law_made : FuncData
  F_law_made : Fun K "_law_made" "_law_made" st_law_made a_law_made d_law_made
  g_law_made : mg "_law_made" = some (.ref a_law_made)
  b_law_made : Binds K d_law_made ["_law_model_here"] []
  a_law : Addr
  d_law : FuncData
  F_law : Fun K "law" "law" st_law a_law d_law
  g_law : mg "law" = some (.ref a_law)
  b_law : Binds K d_law ["_law_script"] []
  a_Machine : Addr
  c_Machine : mg "Machine" = some (.ref a_Machine)
  cl_Machine : Cls K a_Machine
  na_Machine_own_leaks : NoAttr K a_Machine "own_leaks"
  na_Machine_own_edges : NoAttr K a_Machine "own_edges"
  na_Machine_own_start : NoAttr K a_Machine "own_start"
  na_Machine_own_nodes : NoAttr K a_Machine "own_nodes"
  ct_Machine_MOST_NODES : Tok
  cv_Machine_MOST_NODES : CVal K a_Machine (.type "type") "MOST_NODES" (.int 100) (.int 100 ct_Machine_MOST_NODES)
  ct_Machine_MOST_EDGES : Tok
  cv_Machine_MOST_EDGES : CVal K a_Machine (.type "type") "MOST_EDGES" (.int 200) (.int 200 ct_Machine_MOST_EDGES)
  ty_Machine : TyC K a_Machine
  eq_Machine : DLX.EqC K a_Machine a_Machine_eq
  cr_Machine : CRead K a_Machine (.type "type")
  mk_Machine : Mk K a_Machine a_Machine_init
  p_Machine_nodes : Addr
  pp_Machine_nodes : PropOf K a_Machine "nodes" p_Machine_nodes a_Machine_nodes
  p_Machine_start : Addr
  pp_Machine_start : PropOf K a_Machine "start" p_Machine_start a_Machine_start
  m_Machine_leaks : Meth K a_Machine "leaks" a_Machine_leaks
  m_Machine_edges : Meth K a_Machine "edges" a_Machine_edges
  m_Machine_check_edge : Meth K a_Machine "check_edge" a_Machine_check_edge
  m_Machine_check_node : Meth K a_Machine "check_node" a_Machine_check_node
  m_Machine_content : Meth K a_Machine "content" a_Machine_content
  m_Machine_eq : Meth K a_Machine "__eq__" a_Machine_eq
  m_Machine_with_edges : Meth K a_Machine "with_edges" a_Machine_with_edges
  m_Machine_barred : Meth K a_Machine "barred" a_Machine_barred
  m_Machine_with_edge : Meth K a_Machine "with_edge" a_Machine_with_edge
  m_Machine_begun : Meth K a_Machine "begun" a_Machine_begun
  kg_Machine_init_3_start_nodes : List Value → List Value → List Value
  kb_Machine_init_3_start_nodes : KBn K d_Machine_init ["self", "leaks", "edges", "start", "nodes"] 3 ["start", "nodes"] kg_Machine_init_3_start_nodes (fun us ws => atL us 0 ++ atL us 1 ++ atL us 2 ++ atL ws 0 ++ atL ws 1)
  kb_Machine_with_edge_1_edge : KBn K d_Machine_with_edge ["self", "edge"] 1 ["edge"] (fun us ws => [us.getD 0 .none, ws.getD 0 .none]) (fun us ws => [us.getD 0 .non, ws.getD 0 .non])
  kb_Machine_begun_1_start : KBn K d_Machine_begun ["self", "start"] 1 ["start"] (fun us ws => [us.getD 0 .none, ws.getD 0 .none]) (fun us ws => [us.getD 0 .non, ws.getD 0 .non])
  n_len : mg "len" = none
  n_all : mg "all" = none
  n_any : mg "any" = none
  n_max : mg "max" = none
  n_isinstance : mg "isinstance" = none
  n_int : mg "int" = none
  n_list : mg "list" = none
  n_tuple : mg "tuple" = none
  n_str : mg "str" = none
  n_set : mg "set" = none
  n_sorted : mg "sorted" = none
  n_range : mg "range" = none
  n_zip : mg "zip" = none
  n_bool : mg "bool" = none
  n_enumerate : mg "enumerate" = none
  t_MOST_WIDTH : Tok
  c_MOST_WIDTH : mg "MOST_WIDTH" = some (.int 4 t_MOST_WIDTH)
  t_SMALL : Tok
  c_SMALL : mg "SMALL" = some (.str "abcdefghijklmnopqrstuvwxyz" t_SMALL)
  t_DIGITS : Tok
  c_DIGITS : mg "DIGITS" = some (.str "0123456789" t_DIGITS)
  t_MOST_NAME : Tok
  c_MOST_NAME : mg "MOST_NAME" = some (.int 6 t_MOST_NAME)
  t_MOST_FIGURES : Tok
  c_MOST_FIGURES : mg "MOST_FIGURES" = some (.int 12 t_MOST_FIGURES)
  t_MOST_STEP : Tok
  c_MOST_STEP : mg "MOST_STEP" = some (.int 9 t_MOST_STEP)
  a_LENGTHS : Addr
  c_LENGTHS : mg "LENGTHS" = some (.ref a_LENGTHS)
  wd_LENGTHS : WD K w a_LENGTHS rows_LENGTHS
local macro_rules | `(tactic| walk_at "wv") => `(tactic| with_reducible refine we_var (by with_unfolding_all exact rfl) ?_)
local macro_rules | `(tactic| walk_at "wb") => `(tactic| with_reducible refine wa_bag (by with_unfolding_all exact rfl) ?_)
local macro_rules | `(tactic| walk_at "WE") => `(tactic| ((with_reducible show DL.WE _ _ _ _ _); first
  | walk_at "wv" | with_reducible refine we_int ?_ | with_reducible refine we_op ?_ | with_reducible refine we_isiLT ?_ | with_reducible refine we_cb ?_ | with_reducible refine we_str ?_ | with_reducible refine we_call0 (dds := []) (fun _ => .nil) ?_
  | with_reducible refine we_and ?_ | with_reducible refine we_or ?_ | with_reducible refine we_not ?_ | with_reducible refine we_tup ?_ | with_reducible refine we_lst ?_ | with_reducible refine we_if ?_ | with_reducible refine we_chain ?_
  | with_reducible refine we_bl ?_ | with_reducible refine we_non ?_ | with_reducible refine we_sl ?_ | with_reducible refine we_un ?_ | with_reducible refine we_raw ?_))
local macro_rules | `(tactic| walk_at "WA") => `(tactic| ((with_reducible show DL.WA _ _ _ _ _); first
  | with_reducible refine wa_nil ?_ | walk_at "wb" | with_reducible refine wa_cons ?_ | with_reducible refine wa_star ?_))
local macro_rules | `(tactic| walk_at "WT") => `(tactic| ((with_reducible show DL.WT _ _ _ _ _); first
  | with_reducible refine wt_test ?_ | with_reducible refine wt_B ?_ | with_reducible refine wt_and ?_ | with_reducible refine wt_or ?_ | with_reducible refine wt_not ?_ | with_reducible refine wt_yes ?_))
local macro_rules | `(tactic| walk_at "WS") => `(tactic| ((with_reducible show DL.WS _ _ _ _ _); first
  | with_reducible refine ws_seq ?_ | with_reducible refine ws_ret ?_ | with_reducible refine ws_if ?_ | with_reducible refine ws_next ?_ | with_reducible refine ws_set ?_ | with_reducible refine ws_retN ?_ | with_reducible refine ws_par ?_ | with_reducible refine ws_break ?_ | with_reducible refine ws_cont ?_))
local macro_rules | `(tactic| walk_at "WG") => `(tactic| first
  | with_reducible refine wg_name ?_ | with_reducible refine wgs_nm ?_ | with_reducible refine wgs_nil ?_ | with_reducible refine wg_tup rfl ?_)
local macro_rules | `(tactic| walk_at "RD") => `(tactic| ((with_reducible show DL.RD _ _ _ _ _ _); first
  | with_reducible refine rd_add ?_ | with_reducible refine rd_i0 ?_ | with_reducible refine rd_b0 ?_ | with_reducible refine rd_eqI ?_ | with_reducible refine rd_eqS ?_ | with_reducible refine rd_eqB ?_ | with_reducible refine rd_neI ?_ | with_reducible refine rd_neS ?_ | with_reducible refine rd_neB ?_
  | with_reducible refine rd_isN (fun _ hh => by cases hh) ?_ | with_reducible refine rd_notN (fun _ hh => by cases hh) ?_))
local macro_rules | `(tactic| walk_at "RC") => `(tactic| ((with_reducible show DL.RC _ _ _ _ _); first
  | with_reducible refine rc_lenL ?_ | with_reducible refine rc_lenT ?_ | with_reducible refine rc_int ?_ | with_reducible refine rc_intB ?_ | with_reducible refine rc_listL ?_ | with_reducible refine rc_listT ?_ | with_reducible refine rc_tupL ?_ | with_reducible refine rc_tupT ?_ | with_reducible refine rc_strS ?_ | with_reducible refine rc_max2 ?_
  | with_reducible refine rc_isiInt (by with_unfolding_all exact rfl) ?_ | with_reducible refine rc_isiBl (by with_unfolding_all exact rfl) ?_ | with_reducible refine rc_isiStr (by with_unfolding_all exact rfl) ?_
  | with_reducible refine rc_isiLst (by with_unfolding_all exact rfl) ?_ | with_reducible refine rc_isiTup (by with_unfolding_all exact rfl) ?_ | with_reducible refine rc_isiDct (by with_unfolding_all exact rfl) ?_))
local macro_rules | `(tactic| walk_at "RX") => `(tactic| first | with_reducible refine ru_neg ?_ | with_reducible refine rs_L ?_ | with_reducible refine wo_no ?_ | with_reducible refine wo_part ?_)
local macro_rules | `(tactic| walk_at "rd1") => `(tactic| first | walk_at "WE" | walk_at "WA" | walk_at "RD" | walk_at "WS" | walk_at "WT" | walk_at "RC" | walk_at "WG" | walk_at "RX")
local macro_rules | `(tactic| walk_at "rd") => `(tactic| (walk_at "rd1"; repeat (walk_at "rd1")))
local macro_rules | `(tactic| walk_at "tg") => `(tactic| refine ⟨_, rfl, ?_⟩)
local macro_rules | `(tactic| walk_at "tbd") => `(tactic| first
  | with_reducible refine bx_tt (by with_unfolding_all exact rfl) ?_
  | with_reducible refine bx_tf (by with_unfolding_all exact rfl) ?_
  | with_reducible refine bx_of (by with_unfolding_all exact rfl) ?_
  | with_reducible refine bx_ot (by with_unfolding_all exact rfl) ?_
  | with_reducible refine by_tt (by with_unfolding_all exact rfl) ?_
  | with_reducible refine by_tf (by with_unfolding_all exact rfl) ?_
  | with_reducible refine by_of (by with_unfolding_all exact rfl) ?_
  | with_reducible refine by_ot (by with_unfolding_all exact rfl) ?_)
local macro_rules | `(tactic| walk_at "tbo") => `(tactic| first
  | with_reducible refine bx_tt (dt_of (by omega)) ?_
  | with_reducible refine bx_tf (df_of (by omega)) ?_
  | with_reducible refine bx_of (df_of (by omega)) ?_
  | with_reducible refine bx_ot (dt_of (by omega)) ?_
  | with_reducible refine bx_tt (nt_of (by omega)) ?_
  | with_reducible refine bx_tf (nf_of (by omega)) ?_
  | with_reducible refine bx_of (nf_of (by omega)) ?_
  | with_reducible refine bx_ot (nt_of (by omega)) ?_)
local macro_rules | `(tactic| walk_at "tb") => `(tactic| refine ⟨_, rfl, fun hb => ?_, fun hb => ?_⟩)
local macro_rules | `(tactic| walk_at "go1") => `(tactic| first | walk_at "rd1" | walk_at "tbd" | walk_at "tg")
local macro_rules | `(tactic| walk_at "go") => `(tactic| (walk_at "go1"; repeat (walk_at "go1")))
local macro_rules | `(tactic| walk_at "rv") => `(tactic| first
  | with_reducible exact rv_add | with_reducible exact rv_i0 | with_reducible exact rv_b0 | with_reducible exact rv_eqI | with_reducible exact rv_eqS | with_reducible exact rv_eqB | with_reducible exact rv_neI | with_reducible exact rv_neS | with_reducible exact rv_neB
  | with_reducible exact rv_isN (fun _ hh => by cases hh) | with_reducible exact rv_notN (fun _ hh => by cases hh)
  | with_reducible exact rv_ixT (by with_unfolding_all exact rfl) | with_reducible exact rv_ixL (by with_unfolding_all exact rfl)
  | with_reducible exact rv_eqV rfl rfl rfl)
local macro_rules | `(tactic| walk_at "cv") => `(tactic| first
  | with_reducible exact cv_lenL | with_reducible exact cv_lenT | with_reducible exact cv_lenS (by omega) | with_reducible exact cv_all | with_reducible exact cv_any | with_reducible exact cv_int | with_reducible exact cv_intB | with_reducible exact cv_tupL | with_reducible exact cv_tupT | with_reducible exact cv_listL | with_reducible exact cv_listT | with_reducible exact cv_max2 | with_reducible exact cv_strS
  | with_reducible exact cv_isiInt (by with_unfolding_all exact rfl) | with_reducible exact cv_isiBl (by with_unfolding_all exact rfl) | with_reducible exact cv_isiStr (by with_unfolding_all exact rfl) | with_reducible exact cv_isiLst (by with_unfolding_all exact rfl) | with_reducible exact cv_isiTup (by with_unfolding_all exact rfl) | with_reducible exact cv_isiDct (by with_unfolding_all exact rfl))
local macro_rules | `(tactic| walk_at "kw") => `(tactic| (intro G vs zs ds es hv hz; (repeat (first | with_reducible exact DVs.nil | refine DVs.cons (DVs.getD (by assumption) _) ?_))))
local macro_rules | `(tactic| walk_at "dm") => `(tactic| exact rfl)
local macro_rules | `(tactic| walk_at "len") => `(tactic| first | omega | (simp <;> omega))
local macro_rules | `(tactic| walk_at "eg") => `(tactic| first
  | ((with_reducible apply eg_name); exact rfl)
  | ((with_reducible apply eg_tup); (· exact rfl); (· (repeat (with_reducible apply egs_nm)); (with_reducible exact egs_nil))))
local macro_rules | `(tactic| walk_at "ed") => `(tactic| first
  | with_reducible exact ed_nil
  | ((with_reducible apply ed_cons); (· walk_at "ev"); (· walk_at "ed"))
  | ((with_reducible apply ed_starT); (· walk_at "ev"); (· walk_at "ed"))
  | ((with_reducible apply ed_starL); (· walk_at "ev"); (· walk_at "ed")))
local macro_rules | `(tactic| walk_at "eo") => `(tactic| first
  | with_reducible exact eo_no
  | ((with_reducible apply eo_part); (· walk_at "ev"); (· exact rfl)))
local macro_rules | `(tactic| walk_at "ei") => `(tactic| first
  | ((with_reducible apply ei_zipT); walk_at "ed")
  | ((with_reducible apply ei_zipL); walk_at "ed")
  | ((with_reducible apply ei_list); (· walk_at "ev"); (· exact rfl))
  | ((with_reducible apply ei_str); (· walk_at "ev"); (· exact rfl))
  | ((with_reducible apply ei_tup); (· walk_at "ev"); (· exact rfl))
  | ((with_reducible apply ei_rng1); (· walk_at "ed"); (· omega); (· omega)))
local macro_rules | `(tactic| walk_at "ev") => `(tactic| first
  | with_reducible exact ev_var (by with_unfolding_all exact rfl)
  | with_reducible exact ev_int
  | with_reducible exact ev_str
  | ((with_reducible apply ev_op); (· walk_at "ev"); (· walk_at "ev"); (· walk_at "rv"))
  | ((with_reducible apply ev_isiLT); (· walk_at "ev"); (· with_unfolding_all exact rfl))
  | ((with_reducible apply ev_cb); (· walk_at "ed"); (· walk_at "cv"))
  | ((with_reducible apply ev_call); (· walk_at "ed"); (· walk_at "sp"))
  | ((with_reducible apply ev_callN); (· walk_at "ed"); (· walk_at "ed"); (· exact rfl); (· exact rfl); (· walk_at "kw"); (· walk_at "sp"))
  | ((with_reducible apply ev_and); (· walk_at "ev"); (· first | ((with_reducible apply and_F); with_unfolding_all exact rfl) | ((with_reducible apply and_T); (· with_unfolding_all exact rfl); (· walk_at "ev")) | ((with_reducible apply and_S); (· exact rfl); (· intro hb; walk_at "ev"); (· exact rfl))))
  | ((with_reducible apply ev_or); (· walk_at "ev"); (· first | ((with_reducible apply or_T); with_unfolding_all exact rfl) | ((with_reducible apply or_F); (· with_unfolding_all exact rfl); (· walk_at "ev")) | ((with_reducible apply or_S); (· exact rfl); (· intro hb; walk_at "ev"); (· exact rfl))))
  | ((with_reducible apply ev_not); (· walk_at "ev"); (· exact rfl))
  | ((with_reducible apply ev_chainS); (· walk_at "ev"); (· walk_at "ev"); (· walk_at "rv"); (· intro hb; walk_at "ev"); (· intro hb; walk_at "rv"))
  | ((with_reducible apply ev_join); (· walk_at "ev"); (· walk_at "ev"); (· walk_at "len"))
  | ((with_reducible apply ev_tup); (· walk_at "ed"); (· walk_at "len"))
  | ((with_reducible apply ev_lst); (· walk_at "ed"); (· walk_at "len"))
  | ((with_reducible apply ev_map); (· walk_at "ei"); (· walk_at "dm"); (· walk_at "len"); (· intro x; walk_at "eg"); (· intro x hx; walk_at "ev"); (· decide))
  | ((with_reducible apply ev_if); (· walk_at "et"); (· first | ((with_reducible apply if_T); (· with_unfolding_all exact rfl); (· walk_at "ev")) | ((with_reducible apply if_F); (· with_unfolding_all exact rfl); (· walk_at "ev")) | ((with_reducible apply if_S); (· intro hb; walk_at "ev"); (· intro hb; walk_at "ev"))))
  | with_reducible exact ev_bl
  | with_reducible exact ev_non
  | ((with_reducible apply ev_un); (· walk_at "ev"); (· with_reducible exact uv_neg))
  | with_reducible exact ev_raw)
local macro_rules | `(tactic| walk_at "et") => `(tactic| first
  | ((with_reducible apply et_test); (· walk_at "ev"); (· exact rfl))
  | ((with_reducible apply et_B); (· walk_at "ev"); (· exact rfl))
  | ((with_reducible apply et_and); (· walk_at "et"); (· first | ((with_reducible apply tand_F); with_unfolding_all exact rfl) | ((with_reducible apply tand_T); (· with_unfolding_all exact rfl); (· walk_at "et")) | ((with_reducible apply tand_S); intro hb; walk_at "et")))
  | ((with_reducible apply et_or); (· walk_at "et"); (· first | ((with_reducible apply tor_T); with_unfolding_all exact rfl) | ((with_reducible apply tor_F); (· with_unfolding_all exact rfl); (· walk_at "et")) | ((with_reducible apply tor_S); intro hb; walk_at "et")))
  | ((with_reducible apply et_not); walk_at "et")
  | with_reducible exact et_yes)
local macro_rules | `(tactic| walk_at "es1") => `(tactic| ((with_reducible show DL.WS _ _ _ _ _); first
  | with_reducible refine ws_seq ?_
  | ((with_reducible apply es_ret); (· walk_at "ev"))
  | ((with_reducible apply es_if); (· walk_at "et"); first | refine .inl ⟨by with_unfolding_all exact rfl, ?_⟩ | refine .inr (.inl ⟨by with_unfolding_all exact rfl, ?_⟩) | skip)
  | ((with_reducible apply es_set); (· walk_at "ev"))
  | with_reducible refine ws_next ?_
  | ((with_reducible apply es_par); (· walk_at "ed"))
  | with_reducible refine ws_retN ?_))
local macro_rules | `(tactic| walk_at "es") => `(tactic| (walk_at "es1"; repeat (walk_at "es1")))
local macro_rules | `(tactic| walk_at "sp") => `(tactic| first | assumption | solve_by_elim)
local macro_rules | `(tactic| walk_at "kwch") => `(tactic| (repeat (first | exact rfl | refine ⟨_, _, _, _, _, _, rfl, rfl, ?_⟩)))
local macro_rules | `(tactic| walk_at "ev") => `(tactic| first
  | ((with_reducible apply ev_fld); (· walk_at "ev"); (· walk_at "cl"); (· walk_at "na"); (· walk_at "lk"))
  | ((with_reducible apply ev_cval); (· with_reducible exact ev_raw); (· walk_at "cr"); (· walk_at "cvl"))
  | ((with_reducible apply ev_prop); (· walk_at "ev"); (· walk_at "sp"))
  | ((with_reducible apply ev_meth); (· walk_at "ev"); (· walk_at "lk"); (· walk_at "ed"); (· walk_at "sp")))
local macro_rules | `(tactic| walk_at "es1") => `(tactic| ((with_reducible show DL.WS _ _ _ _ _); (with_reducible apply es_drop); (· walk_at "ev")))
local macro_rules | `(tactic| walk_at "cl") => `(tactic| first | exact Txt.cl_Machine _)
local macro_rules | `(tactic| walk_at "na") => `(tactic| first | exact Txt.na_Machine_own_leaks _ | exact Txt.na_Machine_own_edges _ | exact Txt.na_Machine_own_start _ | exact Txt.na_Machine_own_nodes _)
local macro_rules | `(tactic| walk_at "cr") => `(tactic| first | exact Txt.cr_Machine _)
local macro_rules | `(tactic| walk_at "cvl") => `(tactic| first | exact Txt.cv_Machine_MOST_NODES _ | exact Txt.cv_Machine_MOST_EDGES _)
local macro_rules | `(tactic| walk_at "lk") => `(tactic| first | exact lk_Machine_own_leaks | exact lk_Machine_own_edges | exact lk_Machine_own_start | exact lk_Machine_own_nodes | exact lk_Machine_eq | exact lk_Machine_init | exact lk_Machine_barred | exact lk_Machine_begun | exact lk_Machine_check_edge | exact lk_Machine_check_node | exact lk_Machine_content | exact lk_Machine_edges | exact lk_Machine_leaks | exact lk_Machine_with_edge | exact lk_Machine_with_edges)
local macro_rules | `(tactic| walk_at "kw") => `(tactic| first | exact fun _ _ _ _ _ h k => (DVs.append (DVs.append (DVs.append (DVs.append (dvs_atL h 0) (dvs_atL h 1)) (dvs_atL h 2)) (dvs_atL k 0)) (dvs_atL k 1)) | exact fun _ _ _ _ _ h k => (.cons (h.getD 0) (.cons (k.getD 0) .nil)))


/-- a number within bounds -/
def isNum (x : D) (lo : Int) (hi : Option Int) : Bool := match x with
  | .int i => decide (lo ≤ i) && (match hi with | none => true | some h => decide (i ≤ h))
  | _ => false
def optD : Option Int → D
  | none => .non
  | some i => .int i
def sp_is_number : DSp := fun as P _ => ∃ (x : D) (lo : Int) (hi : Option Int), as = [.val x, .val (.int lo), .val (optD hi)] ∧ x.tg ≠ none ∧ P (.bl (isNum x lo hi))
theorem len_is_number : ∀ as P X, sp_is_number as P X → as.length = 3 := by
  rintro as P X ⟨_, _, _, rfl, _⟩
  rfl
def sp_is_listed : DSp := fun as P _ => ∃ (x : D) (t : Tg), as = [.val x] ∧ x.tg = some t ∧ P (.bl (isI t .lst || isI t .tup))
theorem len_is_listed : ∀ as P X, sp_is_listed as P X → as.length = 1 := by
  rintro as P X ⟨_, _, rfl, _⟩
  rfl

def abc : List Nat := (List.range 26).map (97 + ·)
def isName : D → Bool
  | .str s => (decide ((1 : Int) ≤ s.length) && decide ((s.length : Int) ≤ 6)) && s.cps.toList.all fun c => decide (c ∈ abc)
  | _ => false
theorem abc_eq : (Str.ofString "abcdefghijklmnopqrstuvwxyz").cps.toList = abc := by decide +kernel
def sp_is_name : DSp := fun as P _ => ∃ x : D, as = [.val x] ∧ x.tg ≠ none ∧ (∀ s, x = .str s → s.length ≤ 1000) ∧ P (.bl (isName x))
theorem len_is_name : ∀ as P X, sp_is_name as P X → as.length = 1 := by
  rintro as P X ⟨_, rfl, _⟩
  rfl

abbrev sw (s : String) : Str := Str.ofString s
/-- a right deed -/
def isDeed (lk : List Bool) (v : D) : Bool := match v with
  | .tup (.str w :: rest) =>
    if w = sw "skip" then rest.isEmpty
    else if w = sw "add" ∨ w = sw "take" then (match rest with | [a, b] => isNum a 0 (some (lk.length - 1)) && isNum b 1 (some 9) | _ => false)
    else if w = sw "pour" then (match rest with | [.int a, .int b] => isNum (.int a) 0 (some (lk.length - 1)) && (isNum (.int b) 0 (some (lk.length - 1)) && !decide (a = b)) | _ => false)
    else if w = sw "clear" then (match rest with | [a] => isNum a 0 (some (lk.length - 1)) | _ => false)
    else if w = sw "test" then (match rest with | [.int a] => isNum (.int a) 0 (some (lk.length - 1)) && lk.getD a.toNat false | _ => false)
    else false
  | _ => false
theorem len_cases {wd : Str} : (wd = sw "skip" ∧ rows_LENGTHS.lookup wd = some 1) ∨ (wd = sw "add" ∧ rows_LENGTHS.lookup wd = some 3) ∨ (wd = sw "take" ∧ rows_LENGTHS.lookup wd = some 3) ∨ (wd = sw "clear" ∧ rows_LENGTHS.lookup wd = some 2) ∨ (wd = sw "pour" ∧ rows_LENGTHS.lookup wd = some 3) ∨ (wd = sw "test" ∧ rows_LENGTHS.lookup wd = some 2) ∨
    (rows_LENGTHS.lookup wd = none ∧ ∀ lk rest, isDeed lk (.tup (.str wd :: rest)) = false) := by
  by_cases h1 : wd = sw "skip"
  · subst h1; exact .inl ⟨rfl, by decide +kernel⟩
  by_cases h2 : wd = sw "add"
  · subst h2; exact .inr (.inl ⟨rfl, by decide +kernel⟩)
  by_cases h3 : wd = sw "take"
  · subst h3; exact .inr (.inr (.inl ⟨rfl, by decide +kernel⟩))
  by_cases h4 : wd = sw "clear"
  · subst h4; exact .inr (.inr (.inr (.inl ⟨rfl, by decide +kernel⟩)))
  by_cases h5 : wd = sw "pour"
  · subst h5; exact .inr (.inr (.inr (.inr (.inl ⟨rfl, by decide +kernel⟩))))
  by_cases h6 : wd = sw "test"
  · subst h6; exact .inr (.inr (.inr (.inr (.inr (.inl ⟨rfl, by decide +kernel⟩)))))
  refine .inr (.inr (.inr (.inr (.inr (.inr ⟨?_, fun lk rest => ?_⟩)))))
  · unfold rows_LENGTHS
    rw [List.lookup_cons, beq_eq_false_iff_ne.mpr h1, List.lookup_cons, beq_eq_false_iff_ne.mpr h2, List.lookup_cons, beq_eq_false_iff_ne.mpr h3, List.lookup_cons, beq_eq_false_iff_ne.mpr h4, List.lookup_cons, beq_eq_false_iff_ne.mpr h5, List.lookup_cons, beq_eq_false_iff_ne.mpr h6]
    rfl
  · unfold isDeed
    simp only [if_neg h1, if_neg h4, if_neg h5, if_neg h6, if_neg (not_or.mpr ⟨h2, h3⟩)]
theorem sw_ne : sw "add" ≠ sw "skip" ∧ sw "take" ≠ sw "skip" ∧ sw "pour" ≠ sw "skip" ∧ sw "clear" ≠ sw "skip" ∧ sw "test" ≠ sw "skip" ∧ sw "pour" ≠ sw "add" ∧ sw "pour" ≠ sw "take" ∧ sw "clear" ≠ sw "add" ∧ sw "clear" ≠ sw "take" ∧ sw "test" ≠ sw "add" ∧ sw "test" ≠ sw "take" ∧ sw "clear" ≠ sw "pour" ∧ sw "test" ≠ sw "pour" ∧ sw "test" ≠ sw "clear" := by decide +kernel
variable {lk : List Bool} {rest : List D}
theorem isDeed_skip : isDeed lk (.tup (.str (sw "skip") :: rest)) = rest.isEmpty := by
  unfold isDeed
  exact if_pos rfl
theorem isDeed_at {wd : Str} (h : wd = sw "add" ∨ wd = sw "take") : isDeed lk (.tup (.str wd :: rest)) = (match rest with | [a, b] => isNum a 0 (some (lk.length - 1)) && isNum b 1 (some 9) | _ => false) := by
  unfold isDeed
  have h1 : wd ≠ sw "skip" := by rcases h with rfl | rfl; exact sw_ne.1; exact sw_ne.2.1
  simp only [if_neg h1, if_pos h]
theorem isDeed_pour : isDeed lk (.tup (.str (sw "pour") :: rest)) = (match rest with | [.int a, .int b] => isNum (.int a) 0 (some (lk.length - 1)) && (isNum (.int b) 0 (some (lk.length - 1)) && !decide (a = b)) | _ => false) := by
  unfold isDeed
  obtain ⟨h1, h2, h3, h4, h5, h6, h7, h8, h9, h10, h11, h12, h13, h14⟩ := sw_ne
  simp only [if_neg h3, if_neg (not_or.mpr ⟨h6, h7⟩)]
  exact if_pos trivial
theorem isDeed_clear : isDeed lk (.tup (.str (sw "clear") :: rest)) = (match rest with | [a] => isNum a 0 (some (lk.length - 1)) | _ => false) := by
  unfold isDeed
  obtain ⟨h1, h2, h3, h4, h5, h6, h7, h8, h9, h10, h11, h12, h13, h14⟩ := sw_ne
  simp only [if_neg h4, if_neg (not_or.mpr ⟨h8, h9⟩), if_neg h12]
  exact if_pos trivial
theorem isDeed_test : isDeed lk (.tup (.str (sw "test") :: rest)) = (match rest with | [.int a] => isNum (.int a) 0 (some (lk.length - 1)) && lk.getD a.toNat false | _ => false) := by
  unfold isDeed
  obtain ⟨h1, h2, h3, h4, h5, h6, h7, h8, h9, h10, h11, h12, h13, h14⟩ := sw_ne
  simp only [if_neg h5, if_neg (not_or.mpr ⟨h10, h11⟩), if_neg h13, if_neg h14]
  exact if_pos trivial
theorem isDeed_len {wd : Str} {n : Int} (hn : rows_LENGTHS.lookup wd = some n) (hl : (rest.length : Int) + 1 ≠ n) : isDeed lk (.tup (.str wd :: rest)) = false := by
  rcases len_cases (wd := wd) with ⟨hw, h⟩ | ⟨hw, h⟩ | ⟨hw, h⟩ | ⟨hw, h⟩ | ⟨hw, h⟩ | ⟨hw, h⟩ | ⟨h, hf⟩
  all_goals rw [h] at hn
  all_goals first | cases hn | skip
  · subst hw
    rw [isDeed_skip]
    cases rest with
    | nil => simp at hl
    | cons a r => rfl
  · rw [isDeed_at (.inl hw)]
    rcases rest with _ | ⟨a, _ | ⟨b, _ | ⟨c, r⟩⟩⟩ <;> first | rfl | (simp at hl; done)
  · rw [isDeed_at (.inr hw)]
    rcases rest with _ | ⟨a, _ | ⟨b, _ | ⟨c, r⟩⟩⟩ <;> first | rfl | (simp at hl; done)
  · subst hw
    rw [isDeed_clear]
    rcases rest with _ | ⟨a, _ | ⟨b, r⟩⟩ <;> first | rfl | (simp at hl; done)
  · subst hw
    rw [isDeed_pour]
    rcases rest with _ | ⟨a, _ | ⟨b, _ | ⟨c, r⟩⟩⟩ <;> first | rfl | (cases a <;> rfl) | (cases a <;> cases b <;> rfl) | (simp at hl; done)
  · subst hw
    rw [isDeed_test]
    rcases rest with _ | ⟨a, _ | ⟨b, r⟩⟩ <;> first | rfl | (cases a <;> rfl) | (simp at hl; done)
theorem isNum_inv {a : D} {lo hi : Int} (h : isNum a lo (some hi) = true) : ∃ i, a = .int i ∧ lo ≤ i ∧ i ≤ hi := by
  cases a with
  | int i =>
    simp only [isNum, Bool.and_eq_true, decide_eq_true_eq] at h
    exact ⟨i, rfl, h.1, h.2⟩
  | _ => cases h
theorem rv_ixY {K : PySem.W.Frag} {F : DL.Fr} {y : D} {i : Int} (h : y = .lst (lk.map D.bl) ∨ y = .tup (lk.map D.bl)) (h0 : 0 ≤ i) (h1 : i ≤ lk.length - 1) : RV K F (rIx K) y (.int i) (.bl (lk.getD i.toNat false)) := by
  have hi : i.toNat < lk.length := by omega
  have e : (lk.map D.bl)[i.toNat]? = some (.bl (lk.getD i.toNat false)) := by
    rw [List.getElem?_map, List.getElem?_eq_getElem hi, List.getD_eq_getElem?_getD, List.getElem?_eq_getElem hi]
    rfl
  have e2 : atI (lk.map D.bl) i = some (.bl (lk.getD i.toNat false)) := by
    have := atI_nat e
    rw [Int.toNat_of_nonneg h0] at this
    exact this
  rcases h with rfl | rfl
  · exact rv_ixL e2
  · exact rv_ixT e2
theorem cv_lenY {K : PySem.W.Frag} {F : DL.Fr} {y : D} (h : y = .lst (lk.map D.bl) ∨ y = .tup (lk.map D.bl)) : CV K F (rLenA K) [y] (.int lk.length) := by
  have e : ((lk.map D.bl).length : Int) = lk.length := by rw [List.length_map]
  rcases h with rfl | rfl
  · have := cv_lenL (K := K) (F := F) (ds := lk.map D.bl)
    rw [e] at this
    exact this
  · have := cv_lenT (K := K) (F := F) (ds := lk.map D.bl)
    rw [e] at this
    exact this
def sp_is_deed : DSp := fun as P _ => ∃ (lk : List Bool) (y x : D), as = [.val y, .val x] ∧ (y = .lst (lk.map D.bl) ∨ y = .tup (lk.map D.bl)) ∧ x.tg ≠ none ∧ (∀ l, x = .tup l → l.length ≤ 100 ∧ ∀ z ∈ l, z.tg ≠ none) ∧ lk.length ≤ 1000 ∧ P (.bl (isDeed lk x))
theorem len_is_deed : ∀ as P X, sp_is_deed as P X → as.length = 2 := by
  rintro as P X ⟨_, _, _, rfl, _⟩
  rfl
def strOf : D → Str
  | .str s => s
  | .int i => toString i
  | _ => ⟨#[]⟩
def strItem : D → Prop
  | .str s => s.length ≤ 100
  | .int i => i.natAbs < 2 ^ 60
  | _ => False
/-- a drawn deed -/
def deedOf (lk : List Bool) (m : Int) (d : D) : Prop := d = .tup [.str (sw "skip")] ∨ (∃ i : Int, 0 ≤ i ∧ i < lk.length ∧ d = .tup [.str (sw "clear"), .int i]) ∨ (∃ i : Int, 0 ≤ i ∧ i < lk.length ∧ lk.getD i.toNat false = true ∧ d = .tup [.str (sw "test"), .int i]) ∨
  (∃ i j : Int, 0 ≤ i ∧ i < lk.length ∧ 0 ≤ j ∧ j < lk.length ∧ i ≠ j ∧ d = .tup [.str (sw "pour"), .int i, .int j]) ∨ ∃ (w : Str) (i k : Int), (w = sw "add" ∨ w = sw "take") ∧ 0 ≤ i ∧ i < lk.length ∧ 1 ≤ k ∧ k ≤ m ∧ d = .tup [.str w, .int i, .int k]
theorem strItem_def : True := trivial
theorem isNum_in {i n : Int} (h0 : 0 ≤ i) (h1 : i ≤ n) : isNum (.int i) 0 (some n) = true := by
  simp only [isNum, Bool.and_eq_true, decide_eq_true_eq]
  exact ⟨h0, h1⟩
theorem isNum_above {i n : Int} (h1 : n < i) : isNum (.int i) 0 (some n) = false := by
  have : decide (i ≤ n) = false := decide_eq_false (by omega)
  simp only [isNum, this, Bool.and_false]
theorem isNum_19 {i : Int} (h0 : 1 ≤ i) (h1 : i ≤ 9) : isNum (.int i) 1 (some 9) = true := by
  simp only [isNum, Bool.and_eq_true, decide_eq_true_eq]
  exact ⟨h0, h1⟩
/-- a drawn deed is right, and what it looks like -/
theorem deedOf_tup {d : D} {m : Int} (h : deedOf lk m d) : ∃ items, d = .tup items ∧ (items = [.str (sw "skip")] ∨ (∃ i : Int, 0 ≤ i ∧ i < lk.length ∧ items = [.str (sw "clear"), .int i]) ∨ (∃ i : Int, 0 ≤ i ∧ i < lk.length ∧ lk.getD i.toNat false = true ∧ items = [.str (sw "test"), .int i]) ∨
    (∃ i j : Int, 0 ≤ i ∧ i < lk.length ∧ 0 ≤ j ∧ j < lk.length ∧ i ≠ j ∧ items = [.str (sw "pour"), .int i, .int j]) ∨ ∃ (w : Str) (i k : Int), (w = sw "add" ∨ w = sw "take") ∧ 0 ≤ i ∧ i < lk.length ∧ 1 ≤ k ∧ k ≤ m ∧ items = [.str w, .int i, .int k]) := by
  rcases h with rfl | ⟨i, h0, h1, rfl⟩ | ⟨i, h0, h1, h2, rfl⟩ | ⟨i, j, h0, h1, h2, h3, h4, rfl⟩ | ⟨w, i, k, hw, h0, h1, h2, h3, rfl⟩
  · exact ⟨_, rfl, .inl rfl⟩
  · exact ⟨_, rfl, .inr (.inl ⟨i, h0, h1, rfl⟩)⟩
  · exact ⟨_, rfl, .inr (.inr (.inl ⟨i, h0, h1, h2, rfl⟩))⟩
  · exact ⟨_, rfl, .inr (.inr (.inr (.inl ⟨i, j, h0, h1, h2, h3, h4, rfl⟩)))⟩
  · exact ⟨_, rfl, .inr (.inr (.inr (.inr ⟨w, i, k, hw, h0, h1, h2, h3, rfl⟩)))⟩
theorem isDeed_drawn {d : D} (h : deedOf lk 9 d) : isDeed lk d = true := by
  rcases h with rfl | ⟨i, h0, h1, rfl⟩ | ⟨i, h0, h1, h2, rfl⟩ | ⟨i, j, h0, h1, h2, h3, h4, rfl⟩ | ⟨w, i, k, hw, h0, h1, h2, h3, rfl⟩
  · rw [isDeed_skip]
    rfl
  · rw [isDeed_clear]
    exact isNum_in h0 (by omega)
  · rw [isDeed_test]
    simp only [isNum_in h0 (show i ≤ (lk.length : Int) - 1 by omega), h2, Bool.and_self]
  · rw [isDeed_pour]
    simp only [isNum_in h0 (show i ≤ (lk.length : Int) - 1 by omega), isNum_in h2 (show j ≤ (lk.length : Int) - 1 by omega), decide_eq_false h4, Bool.not_false, Bool.and_self]
  · rw [isDeed_at hw]
    simp only [isNum_in h0 (show i ≤ (lk.length : Int) - 1 by omega), isNum_19 h2 h3, Bool.and_self]
theorem look_skip : rows_LENGTHS.lookup (sw "skip") = some 1 := by decide +kernel
theorem look_add : rows_LENGTHS.lookup (sw "add") = some 3 := by decide +kernel
theorem look_take : rows_LENGTHS.lookup (sw "take") = some 3 := by decide +kernel
theorem look_clear : rows_LENGTHS.lookup (sw "clear") = some 2 := by decide +kernel
theorem look_pour : rows_LENGTHS.lookup (sw "pour") = some 3 := by decide +kernel
theorem look_test : rows_LENGTHS.lookup (sw "test") = some 2 := by decide +kernel
theorem isDeed_jump {rest : List D} : isDeed lk (.tup (.str (sw "jump") :: rest)) = false := by
  unfold isDeed
  have h1 : sw "jump" ≠ sw "skip" := by decide +kernel
  have h2 : ¬ (sw "jump" = sw "add" ∨ sw "jump" = sw "take") := by decide +kernel
  have h3 : sw "jump" ≠ sw "pour" := by decide +kernel
  have h4 : sw "jump" ≠ sw "clear" := by decide +kernel
  have h5 : sw "jump" ≠ sw "test" := by decide +kernel
  simp only [if_neg h1, if_neg h2, if_neg h3, if_neg h4, if_neg h5]
def oddDeeds (n : Int) (items : List D) : List D := [.tup [], .tup [.str (sw "skip"), .int 0], .tup [.str (sw "jump")], .tup [.str (sw "add"), .int 0], .tup [.str (sw "add"), .int 0, .int 0], .tup [.str (sw "add"), .int 0, .int 10], .tup [.str (sw "take"), .int n, .int 1], .tup [.str (sw "clear")],
  .tup [.str (sw "take"), .int 0, .bl true], .tup [.str (sw "clear"), .int (0 - 1)], .tup [.str (sw "pour"), .int 0, .int 0], .tup [.str (sw "pour"), .int 0, .int n], .tup [.str (sw "test"), .int n], .tup [.str (sw "test"), .str (sw "a")], .non, .str (sw "skip"), .int 4, .lst items, .tup (items ++ [.int 0]),
  .tup (cutD items none (some ((items.length : Int) - 1))), .tup [.tup items], .tup [.str (sw "clear"), .non], .tup [.int 0, .int 1, .int 1], .tup [.lst [.str (sw "add")], .int 0, .int 1], .tup [.str (sw "add"), .int 0, .str (sw "1")], .tup [.str (sw "test"), .int 0, .int 0], .tup [.non],
  .tup [.str (sw "pour"), .int 0, .tup [.int 1]], .tup [.str (sw "clear"), .bl true], .tup [.str (sw "add"), .bl true, .int 1], .tup [.str (sw "pour"), .bl true, .int 0]]
theorem odd_false {d : D} {items : List D} (h : deedOf lk 9 d) (hd : d = .tup items) : ∀ x ∈ oddDeeds lk.length items, isDeed lk x = false := by
  have f1 : isDeed lk (.tup (items ++ [.int 0])) = false ∧ isDeed lk (.tup (cutD items none (some ((items.length : Int) - 1)))) = false := by
    obtain ⟨its, e, hc⟩ := deedOf_tup h
    rw [hd] at e
    cases e
    rcases hc with rfl | ⟨i, _, _, rfl⟩ | ⟨i, _, _, _, rfl⟩ | ⟨i, j, _, _, _, _, _, rfl⟩ | ⟨w, i, k, hw, _, _, _, _, rfl⟩
    · exact ⟨isDeed_len look_skip (by simp), rfl⟩
    · exact ⟨isDeed_len look_clear (by simp), isDeed_len (rest := []) look_clear (by simp)⟩
    · exact ⟨isDeed_len look_test (by simp), isDeed_len (rest := []) look_test (by simp)⟩
    · exact ⟨isDeed_len look_pour (by simp), isDeed_len (rest := [.int i]) look_pour (by simp)⟩
    · have hl : rows_LENGTHS.lookup w = some 3 := by rcases hw with rfl | rfl <;> decide +kernel
      exact ⟨isDeed_len hl (by simp), isDeed_len (rest := [.int i]) hl (by simp)⟩
  have n1 : isNum (.int (lk.length : Int)) 0 (some ((lk.length : Int) - 1)) = false := isNum_above (by omega)
  intro x hx
  unfold oddDeeds at hx
  simp only [List.mem_cons, List.not_mem_nil, or_false] at hx
  rcases hx with rfl | rfl | rfl | rfl | rfl | rfl | rfl | rfl | rfl | rfl | rfl | rfl | rfl | rfl | rfl | rfl | rfl | rfl | rfl | rfl | rfl | rfl | rfl | rfl | rfl | rfl | rfl | rfl | rfl | rfl | rfl
  · rfl
  · exact isDeed_len look_skip (by simp)
  · exact isDeed_jump
  · exact isDeed_len look_add (by simp)
  · rw [isDeed_at (.inl rfl)]
    exact Bool.and_false _
  · rw [isDeed_at (.inl rfl)]
    exact Bool.and_false _
  · rw [isDeed_at (.inr rfl)]
    simp only [n1, Bool.false_and]
  · exact isDeed_len look_clear (by simp)
  · rw [isDeed_at (.inr rfl)]
    exact Bool.and_false _
  · rw [isDeed_clear]
    rfl
  · rw [isDeed_pour]
    simp
  · rw [isDeed_pour]
    simp only [n1, Bool.false_and, Bool.and_false]
  · rw [isDeed_test]
    simp only [n1, Bool.false_and]
  · rw [isDeed_test]
  · rfl
  · rfl
  · rfl
  · rfl
  · exact f1.1
  · exact f1.2
  · rfl
  · rw [isDeed_clear]
    rfl
  · rfl
  · rfl
  · rw [isDeed_at (.inl rfl)]
    exact Bool.and_false _
  · exact isDeed_len look_test (by simp)
  · rfl
  · rw [isDeed_pour]
  · rw [isDeed_clear]
    rfl
  · rw [isDeed_at (.inl rfl)]
    rfl
  · rw [isDeed_pour]
/-- what is_deed may be asked -/
def askB : D → Bool
  | .tup l => decide (l.length ≤ 100) && l.all fun z => z.tg.isSome
  | x => x.tg.isSome
theorem askB_ok {x : D} (h : askB x = true) : x.tg ≠ none ∧ ∀ l, x = .tup l → l.length ≤ 100 ∧ ∀ z ∈ l, z.tg ≠ none := by
  cases x with
  | tup l =>
    simp only [askB, Bool.and_eq_true, decide_eq_true_eq, List.all_eq_true] at h
    refine ⟨by simp [D.tg], fun l' e => ?_⟩
    cases e
    exact ⟨h.1, fun z hz e => by have := h.2 z hz; rw [e] at this; cases this⟩
  | ins C l => cases h
  | raw v => cases h
  | _ => exact ⟨by simp [D.tg], fun l' e => by cases e⟩
theorem odd_ask {d : D} {items : List D} {n : Int} (h : deedOf lk 9 d) (hd : d = .tup items) : ∀ x ∈ oddDeeds n items, askB x = true := by
  obtain ⟨its, e, hc⟩ := deedOf_tup h
  rw [hd] at e
  cases e
  have : (oddDeeds n items).all askB = true := by
    rcases hc with rfl | ⟨i, _, _, rfl⟩ | ⟨i, _, _, _, rfl⟩ | ⟨i, j, _, _, _, _, _, rfl⟩ | ⟨w, i, k, hw, _, _, _, _, rfl⟩ <;> rfl
  exact List.all_eq_true.mp this
theorem deed_items {d : D} {items : List D} (h : deedOf lk 9 d) (hd : d = .tup items) (hl : lk.length ≤ 1000) : items ≠ [] ∧ items.length ≤ 3 ∧ (∀ x ∈ items, strItem x) ∧ ((items.map strOf).map (·.length)).sum ≤ 1000 ∧ askB d = true := by
  obtain ⟨its, e, hc⟩ := deedOf_tup h
  rw [hd] at e
  cases e
  have sl : ∀ i : Int, 0 ≤ i → i < 1000 → (toString i : Str).length ≤ 3 := by
    intro i h0 h1
    have key : ∀ n : Nat, n < 1000 → (toString (n : Int) : Str).length ≤ 3 := by decide +kernel
    have := key i.toNat (by omega)
    rwa [Int.toNat_of_nonneg h0] at this
  have w1 : ∀ w : Str, (w = sw "skip" ∨ w = sw "add" ∨ w = sw "take" ∨ w = sw "clear" ∨ w = sw "pour" ∨ w = sw "test") → w.length ≤ 5 := by
    rintro w (rfl | rfl | rfl | rfl | rfl | rfl) <;> decide +kernel
  have si : ∀ i : Int, 0 ≤ i → i < 1000 → strItem (.int i) := fun i h0 h1 => by show i.natAbs < 2 ^ 60; omega
  have ss : ∀ w : Str, w.length ≤ 5 → strItem (.str w) := fun w h => by show w.length ≤ 100; omega
  rcases hc with rfl | ⟨i, h0, h1, rfl⟩ | ⟨i, h0, h1, _, rfl⟩ | ⟨i, j, h0, h1, h2, h3, _, rfl⟩ | ⟨w, i, k, hw, h0, h1, h2, h3, rfl⟩
  · have a := w1 (sw "skip") (by simp)
    refine ⟨by simp, by simp, ?_, ?_, by rw [hd]; rfl⟩
    · simpa using ss _ a
    · simp only [List.map_cons, List.map_nil, List.sum_cons, List.sum_nil, strOf]
      omega
  · have a := w1 (sw "clear") (by simp)
    have b := sl i h0 (by omega)
    refine ⟨by simp, by simp, ?_, ?_, by rw [hd]; rfl⟩
    · simpa using ⟨ss _ a, si i h0 (by omega)⟩
    · simp only [List.map_cons, List.map_nil, List.sum_cons, List.sum_nil, strOf]
      omega
  · have a := w1 (sw "test") (by simp)
    have b := sl i h0 (by omega)
    refine ⟨by simp, by simp, ?_, ?_, by rw [hd]; rfl⟩
    · simpa using ⟨ss _ a, si i h0 (by omega)⟩
    · simp only [List.map_cons, List.map_nil, List.sum_cons, List.sum_nil, strOf]
      omega
  · have a := w1 (sw "pour") (by simp)
    have b := sl i h0 (by omega)
    have c := sl j h2 (by omega)
    refine ⟨by simp, by simp, ?_, ?_, by rw [hd]; rfl⟩
    · simpa using ⟨ss _ a, si i h0 (by omega), si j h2 (by omega)⟩
    · simp only [List.map_cons, List.map_nil, List.sum_cons, List.sum_nil, strOf]
      omega
  · have a := w1 w (by rcases hw with rfl | rfl <;> simp)
    have b := sl i h0 (by omega)
    have c := sl k (by omega) (by omega)
    refine ⟨by simp, by simp, ?_, ?_, by rw [hd]; rfl⟩
    · simpa using ⟨ss _ a, si i h0 (by omega), si k (by omega) (by omega)⟩
    · simp only [List.map_cons, List.map_nil, List.sum_cons, List.sum_nil, strOf]
      omega


/-- an edge of a machine with n nodes -/
def edgeOk (lk : List Bool) (n m : Int) (e : D) : Prop := ∃ (s t : Int) (d : D) (l : Str), e = .tup [.int s, d, .int t, .str l] ∧ 0 ≤ s ∧ s < n ∧ 0 ≤ t ∧ t < n ∧ deedOf lk m d ∧ (isName (.str l) = true ∨ l = sw "") ∧ l.length ≤ 6
theorem deedOf_mono {lk : List Bool} {m m' : Int} {d : D} (h : deedOf lk m d) (hm : m ≤ m') : deedOf lk m' d := by
  rcases h with h | h | h | h | ⟨w, i, k, hw, h0, h1, h2, h3, rfl⟩
  · exact .inl h
  · exact .inr (.inl h)
  · exact .inr (.inr (.inl h))
  · exact .inr (.inr (.inr (.inl h)))
  · exact .inr (.inr (.inr (.inr ⟨w, i, k, hw, h0, h1, h2, by omega, rfl⟩)))
theorem edgeOk_mono {lk : List Bool} {n n' m m' : Int} {e : D} (h : edgeOk lk n m e) (hn : n ≤ n') (hm : m ≤ m') : edgeOk lk n' m' e := by
  obtain ⟨s, t, d, l, rfl, h1, h2, h3, h4, h5, h6, h7⟩ := h
  exact ⟨s, t, d, l, rfl, h1, by omega, h3, by omega, deedOf_mono h5 hm, h6, h7⟩
def sp_is_edge : DSp := fun as P _ => ∃ (lk : List Bool) (n : Int) (e : D), as = [.val (.lst (lk.map D.bl)), .val (.int n), .val e] ∧ edgeOk lk n 9 e ∧ lk.length ≤ 1000 ∧ P (.bl true)
theorem len_is_edge : ∀ as P X, sp_is_edge as P X → as.length = 3 := by
  rintro as P X ⟨_, _, _, rfl, _⟩
  rfl
def sp_is_leaks : DSp := fun as P _ => ∃ lk : List Bool, as = [.val (.lst (lk.map D.bl))] ∧ 1 ≤ lk.length ∧ lk.length ≤ 4 ∧ P (.bl true)
theorem len_is_leaks : ∀ as P X, sp_is_leaks as P X → as.length = 1 := by
  rintro as P X ⟨_, rfl, _⟩
  rfl

def machF (lk : List Bool) (es : List D) (st nd : Int) : List (Str × D) := [("own_leaks", .lst (lk.map D.bl)), ("own_edges", .lst es), ("own_start", .int st), ("own_nodes", .int nd)]
abbrev mach (C : Addr) (lk : List Bool) (es : List D) (st nd : Int) : D := .ins C [("own_leaks", .lst (lk.map D.bl)), ("own_edges", .lst es), ("own_start", .int st), ("own_nodes", .int nd)]
def srcOf : D → Int
  | .tup (.int s :: _) => s
  | _ => 0
def tgtOf : D → Int
  | .tup [_, _, .int t, _] => t
  | _ => 0

def sp_Machine_init : ISp := fun as P => ∃ (lk : List Bool) (es : List D) (st : Int) (nodes : D) (most nd : Int), as = [.val (.lst (lk.map D.bl)), .val (.lst es), .val (.int st), .val nodes] ∧ 1 ≤ lk.length ∧ lk.length ≤ 4 ∧ es.length ≤ 200 ∧
  ((nodes = .int most ∧ nd = most ∧ 1 ≤ most ∧ most ≤ 100) ∨ (nodes = .non ∧ most = 100 ∧ nd = mx (st :: (es.map srcOf ++ es.map tgtOf)) + 1)) ∧ (∀ e ∈ es, edgeOk lk most 9 e) ∧ 0 ≤ st ∧ st < most ∧ P (machF lk es st nd)
theorem len_Machine_init : ∀ as P, sp_Machine_init as P → as.length + 1 = 5 := by
  rintro as P ⟨_, _, _, _, _, _, rfl, _⟩
  rfl

def sp_Machine_nodes (C : Addr) : DSp := fun as P _ => ∃ (lk : List Bool) (es : List D) (st nd : Int), as = [.val (mach C lk es st nd)] ∧ P (.int nd)
theorem len_Machine_nodes {C : Addr} : ∀ as P X, sp_Machine_nodes C as P X → as.length = 1 := by
  rintro as P X ⟨_, _, _, _, rfl, _⟩
  rfl

def sp_Machine_start (C : Addr) : DSp := fun as P _ => ∃ (lk : List Bool) (es : List D) (st nd : Int), as = [.val (mach C lk es st nd)] ∧ P (.int st)
theorem len_Machine_start {C : Addr} : ∀ as P X, sp_Machine_start C as P X → as.length = 1 := by
  rintro as P X ⟨_, _, _, _, rfl, _⟩
  rfl

def sp_Machine_leaks (C : Addr) : DSp := fun as P _ => ∃ (lk : List Bool) (es : List D) (st nd : Int), as = [.val (mach C lk es st nd)] ∧ P (.lst (lk.map D.bl))
theorem len_Machine_leaks {C : Addr} : ∀ as P X, sp_Machine_leaks C as P X → as.length = 1 := by
  rintro as P X ⟨_, _, _, _, rfl, _⟩
  rfl

def sp_Machine_edges (C : Addr) : DSp := fun as P _ => ∃ (lk : List Bool) (es : List D) (st nd : Int), as = [.val (mach C lk es st nd)] ∧ P (.lst es)
theorem len_Machine_edges {C : Addr} : ∀ as P X, sp_Machine_edges C as P X → as.length = 1 := by
  rintro as P X ⟨_, _, _, _, rfl, _⟩
  rfl

def sp_Machine_check_edge (C : Addr) : DSp := fun as P _ => ∃ (lk : List Bool) (es : List D) (st nd at_ : Int), as = [.val (mach C lk es st nd), .val (.int at_)] ∧ 0 ≤ at_ ∧ at_ < es.length ∧ P .non
theorem len_Machine_check_edge {C : Addr} : ∀ as P X, sp_Machine_check_edge C as P X → as.length = 2 := by
  rintro as P X ⟨_, _, _, _, _, rfl, _⟩
  rfl

def sp_Machine_check_node (C : Addr) : DSp := fun as P _ => ∃ (lk : List Bool) (es : List D) (st nd at_ : Int), as = [.val (mach C lk es st nd), .val (.int at_)] ∧ 0 ≤ at_ ∧ at_ < nd ∧ P .non
theorem len_Machine_check_node {C : Addr} : ∀ as P X, sp_Machine_check_node C as P X → as.length = 2 := by
  rintro as P X ⟨_, _, _, _, _, rfl, _⟩
  rfl


theorem strOk_small {s : Str} (h : isName (.str s) = true ∨ s = sw "") : PyData.strOk s = true := by
  rcases h with h | rfl
  · unfold isName at h
    rw [Bool.and_eq_true, List.all_eq_true] at h
    unfold PyData.strOk
    rw [Array.all_eq_true_iff_forall_mem]
    intro c hc
    have := h.2 c (by simpa using hc)
    rw [decide_eq_true_eq] at this ⊢
    unfold abc at this
    obtain ⟨i, hi, rfl⟩ := List.mem_map.mp this
    have := List.mem_range.mp hi
    omega
  · decide +kernel
theorem okN_deed {lk : List Bool} {m : Int} {d : D} (h : deedOf lk m d) : okN 1 d = true := by
  rcases h with rfl | ⟨i, h0, h1, rfl⟩ | ⟨i, h0, h1, h2, rfl⟩ | ⟨i, j, h0, h1, h2, h3, h4, rfl⟩ | ⟨w, i, k, hw, h0, h1, h2, h3, rfl⟩
  · simp only [okN, List.all_cons, List.all_nil, Bool.and_true]; decide +kernel
  · simp only [okN, List.all_cons, List.all_nil, Bool.and_true]; decide +kernel
  · simp only [okN, List.all_cons, List.all_nil, Bool.and_true]; decide +kernel
  · simp only [okN, List.all_cons, List.all_nil, Bool.and_true]; decide +kernel
  · rcases hw with rfl | rfl <;> (simp only [okN, List.all_cons, List.all_nil, Bool.and_true]; decide +kernel)
theorem okN_edge {lk : List Bool} {n m : Int} {e : D} (h : edgeOk lk n m e) : okN 2 e = true := by
  obtain ⟨s, t, d, l, rfl, h0, h1, h2, h3, hd, hl, _⟩ := h
  have := okN_deed hd
  have hs := strOk_small hl
  rw [okN, List.all_cons, List.all_cons, List.all_cons, List.all_cons, this]
  simp [okN, hs]
theorem okN_edges {lk : List Bool} {n m : Int} {es : List D} (h : ∀ e ∈ es, edgeOk lk n m e) : okN 3 (.lst es) = true := by
  rw [okN, List.all_eq_true]
  exact fun e he => okN_edge (h e he)
def contD (lk : List Bool) (es : List D) (st nd : Int) : D := .tup [.lst (lk.map D.bl), .int nd, .int st, .lst es]
theorem okN_cont {lk : List Bool} {es : List D} (st nd : Int) (h : ∀ e ∈ es, okN 2 e = true) : okN 4 (contD lk es st nd) = true := by
  have h1 : okN 3 (.lst (lk.map D.bl)) = true := by
    rw [okN, List.all_map, List.all_eq_true]
    intro x _
    rfl
  have h2 : okN 3 (.lst es) = true := by
    rw [okN, List.all_eq_true]
    exact h
  rw [contD, okN, List.all_cons, List.all_cons, List.all_cons, List.all_cons, h1, h2]
  rfl
def sp_Machine_content (C : Addr) : DSp := fun as P _ => ∃ (lk : List Bool) (es : List D) (st nd : Int), as = [.val (mach C lk es st nd)] ∧ P (contD lk es st nd)
theorem len_Machine_content {C : Addr} : ∀ as P X, sp_Machine_content C as P X → as.length = 1 := by
  rintro as P X ⟨_, _, _, _, rfl, _⟩
  rfl

def sp_Machine_eq (C : Addr) : DSp := fun as P _ => ∃ (lk : List Bool) (es : List D) (st nd : Int) (lk2 : List Bool) (es2 : List D) (st2 nd2 : Int), as = [.val (mach C lk es st nd), .val (mach C lk2 es2 st2 nd2)] ∧ (∀ e ∈ es, okN 2 e = true) ∧ (∀ e ∈ es2, okN 2 e = true) ∧ P (.bl (eqD (contD lk es st nd) (contD lk2 es2 st2 nd2)))
theorem len_Machine_eq {C : Addr} : ∀ as P X, sp_Machine_eq C as P X → as.length = 2 := by
  rintro as P X ⟨_, _, _, _, _, _, _, _, rfl, _⟩
  rfl

theorem rv_neM {K : PySem.W.Frag} {F : DL.Fr} {C : Addr} {lk : List Bool} {es : List D} {st nd : Int} (cl : Cls K C) (t : TyC K C) (h : ∀ e ∈ es, okN 2 e = true) : RV K F (DLX.rEqOwn K C true (spOf K (sp_Machine_eq C)) E0) (mach C lk es st nd) (mach C lk es st nd) (.bl false) :=
  rv_own (b := true) cl t ⟨_, _, _, _, _, _, _, _, rfl, h, h, congrArg D.bl (eqD_refl (ok_of 4 (okN_cont st nd h)))⟩ (by rintro P Q Y i ⟨_, _, _, _, _, _, _, _, e, h1, h2, p⟩; exact ⟨_, _, _, _, _, _, _, _, e, h1, h2, i _ p⟩)
theorem rv_eqM {K : PySem.W.Frag} {F : DL.Fr} {C : Addr} {lk : List Bool} {es : List D} {st nd : Int} (cl : Cls K C) (t : TyC K C) (h : ∀ e ∈ es, okN 2 e = true) : RV K F (DLX.rEqOwn K C false (spOf K (sp_Machine_eq C)) E0) (mach C lk es st nd) (mach C lk es st nd) (.bl true) :=
  rv_own (b := true) cl t ⟨_, _, _, _, _, _, _, _, rfl, h, h, congrArg D.bl (eqD_refl (ok_of 4 (okN_cont st nd h)))⟩ (by rintro P Q Y i ⟨_, _, _, _, _, _, _, _, e, h1, h2, p⟩; exact ⟨_, _, _, _, _, _, _, _, e, h1, h2, i _ p⟩)

def sp_Machine_with_edges (C : Addr) : DSp := fun as P _ => ∃ (lk : List Bool) (es0 es : List D) (st nd : Int), as = [.val (mach C lk es0 st nd), .val (.lst es)] ∧ 1 ≤ lk.length ∧ lk.length ≤ 4 ∧ es.length ≤ 200 ∧ 1 ≤ nd ∧ nd ≤ 100 ∧ (∀ e ∈ es, edgeOk lk nd 9 e) ∧ 0 ≤ st ∧ st < nd ∧ P (mach C lk es st nd)
theorem len_Machine_with_edges {C : Addr} : ∀ as P X, sp_Machine_with_edges C as P X → as.length = 2 := by
  rintro as P X ⟨_, _, _, _, _, rfl, _⟩
  rfl


def keepF (k : Nat) (es : List D) (ats : List Int) : List D := ((es.zipIdx k).filter fun p => !decide ((p.2 : Int) ∈ ats)).map (·.1)
def keepD (es : List D) (ats : List Int) : List D := keepF 0 es ats
theorem keepF_cons (k : Nat) (e : D) (es : List D) (ats : List Int) : keepF k (e :: es) ats = if (k : Int) ∈ ats then keepF (k + 1) es ats else e :: keepF (k + 1) es ats := by
  unfold keepF
  rw [List.zipIdx_cons, List.filter_cons]
  split
  · rename_i h
    simp only [Bool.not_eq_true', decide_eq_false_iff_not] at h
    rw [if_neg h]
    rfl
  · rename_i h
    simp only [Bool.not_eq_true', decide_eq_false_iff_not, Classical.not_not] at h
    rw [if_pos h]
theorem keepF_free (ats : List Int) : ∀ (es : List D) (k : Nat), (∀ a ∈ ats, a < k ∨ (k + es.length : Nat) ≤ a) → keepF k es ats = es
  | [], k, _ => rfl
  | e :: es, k, h => by
    rw [keepF_cons, if_neg, keepF_free ats es (k + 1) fun a ha => ?_]
    · have := h a ha
      rw [List.length_cons] at this
      omega
    · intro ha
      have := h _ ha
      rw [List.length_cons] at this
      omega
theorem keep_nil (es : List D) : keepD es [] = es := keepF_free [] es 0 fun a ha => by cases ha
theorem keepF_one : ∀ (es : List D) (k j : Nat), j < es.length → keepF k es [((k + j : Nat) : Int)] = es.take j ++ es.drop (j + 1)
  | e :: es, k, 0, _ => by
    rw [keepF_cons, if_pos (by simp), keepF_free _ es (k + 1) fun a ha => ?_]
    · rfl
    · rw [List.mem_singleton.mp ha]
      omega
  | e :: es, k, j + 1, h => by
    rw [keepF_cons, if_neg (by simp; omega)]
    have := keepF_one es (k + 1) j (by simpa using h)
    rw [show k + 1 + j = k + (j + 1) by omega] at this
    rw [this]
    rfl
theorem keep_one {es : List D} {j : Nat} (h : j < es.length) : keepD es [(j : Int)] = es.take j ++ es.drop (j + 1) := by
  have := keepF_one es 0 j h
  rw [Nat.zero_add] at this
  exact this
theorem keep_last (es : List D) (x : D) : keepD (es ++ [x]) [(es.length : Int)] = es := by
  rw [keep_one (by simp)]
  simp
theorem keepF_range (ats : List Int) : ∀ (es : List D) (k : Nat), ((List.range' k es.length).filter fun (i : Nat) => !decide ((i : Int) ∈ ats)).map (fun i => (es[i - k]?).getD .non) = keepF k es ats
  | [], k => rfl
  | e :: es, k => by
    rw [keepF_cons, List.length_cons, List.range'_succ, List.filter_cons]
    have ih := keepF_range ats es (k + 1)
    have ih2 : ((List.range' (k + 1) es.length).filter fun (i : Nat) => !decide ((i : Int) ∈ ats)).map (fun i => ((e :: es)[i - k]?).getD .non) = keepF (k + 1) es ats := by
      rw [← ih]
      refine List.map_congr_left fun i hi => ?_
      have h1 := (List.mem_range'_1.mp (List.mem_filter.mp hi).1).1
      rw [show i - k = (i - (k + 1)) + 1 by omega, List.getElem?_cons_succ]
    split
    · rename_i h
      simp only [Bool.not_eq_true', decide_eq_false_iff_not] at h
      rw [if_neg h, List.map_cons, ih2, Nat.sub_self]
      rfl
    · rename_i h
      simp only [Bool.not_eq_true', decide_eq_false_iff_not, Classical.not_not] at h
      rw [if_pos h, ih2]
theorem keep_range (es : List D) (ats : List Int) : ((List.range es.length).filter fun (i : Nat) => !decide ((i : Int) ∈ ats)).map (fun i => (es[i]?).getD .non) = keepD es ats := by
  rw [List.range_eq_range']
  exact keepF_range ats es 0
theorem keep_sub {es : List D} {ats : List Int} {e : D} (h : e ∈ keepD es ats) : e ∈ es := by
  obtain ⟨p, hp, rfl⟩ := List.mem_map.mp h
  have := (List.mem_filter.mp hp).1
  exact List.fst_mem_of_mem_zipIdx this
theorem keep_len (es : List D) (ats : List Int) : (keepD es ats).length ≤ es.length := by
  unfold keepD keepF
  rw [List.length_map]
  refine Nat.le_trans (List.length_filter_le _ _) ?_
  rw [List.length_zipIdx]
  exact Nat.le_refl _
def sp_Machine_barred (C : Addr) : DSp := fun as P _ => ∃ (lk : List Bool) (es : List D) (st nd : Int) (ats : List Int), as = [.val (mach C lk es st nd), .val (.tup (ats.map D.int))] ∧ 1 ≤ lk.length ∧ lk.length ≤ 4 ∧ es.length ≤ 200 ∧ 1 ≤ nd ∧ nd ≤ 100 ∧ (∀ e ∈ es, edgeOk lk nd 9 e) ∧ 0 ≤ st ∧ st < nd ∧ (∀ a ∈ ats, 0 ≤ a ∧ a < es.length) ∧ P (mach C lk (keepD es ats) st nd)

def sp_Machine_with_edge (C : Addr) : DSp := fun as P _ => ∃ (lk : List Bool) (es : List D) (st nd : Int) (e : D), as = [.val (mach C lk es st nd), .val e] ∧ 1 ≤ lk.length ∧ lk.length ≤ 4 ∧ es.length < 200 ∧ 1 ≤ nd ∧ nd ≤ 100 ∧ (∀ e ∈ es, edgeOk lk nd 9 e) ∧ edgeOk lk nd 9 e ∧ 0 ≤ st ∧ st < nd ∧ P (mach C lk (es ++ [e]) st nd)
theorem len_Machine_with_edge {C : Addr} : ∀ as P X, sp_Machine_with_edge C as P X → as.length = 2 := by
  rintro as P X ⟨_, _, _, _, _, rfl, _⟩
  rfl

def sp_Machine_begun (C : Addr) : DSp := fun as P _ => ∃ (lk : List Bool) (es : List D) (st0 st nd : Int), as = [.val (mach C lk es st0 nd), .val (.int st)] ∧ 1 ≤ lk.length ∧ lk.length ≤ 4 ∧ es.length ≤ 200 ∧ 1 ≤ nd ∧ nd ≤ 100 ∧ (∀ e ∈ es, edgeOk lk nd 9 e) ∧ 0 ≤ st ∧ st < nd ∧ P (mach C lk es st nd)
theorem len_Machine_begun {C : Addr} : ∀ as P X, sp_Machine_begun C as P X → as.length = 2 := by
  rintro as P X ⟨_, _, _, _, _, rfl, _⟩
  rfl

def spB_law_bag (K : PySem.W.Frag) : Sp := fun vs H Q _ => ∃ (a : Addr) (ns : List Int), vs = [.ref a] ∧ SqL K H a (ns.map V.int) ∧ ns.length ≤ 63 ∧ ∀ H' p c, Same H H' → H p = none → H c = none → Bag c p H' → Q (.ref p) H'
theorem enter_law {K : PySem.W.Frag} {rest : TS} {E : Ends} {N : List Str} {n : Nat} {a : Addr} {ns : List Int} {H : Hp} (hN : N.length = n + 2) (hS : SqL K H a (ns.map V.int)) (hlen : ns.length ≤ 63) (q : ∀ H', E.rt (.bl true) H')
    (hs : ∀ F : DL.Fr, WS K F rest (.none :: .bag :: List.replicate n .none) ⟨fun _ => False, fun d => d = .bl true, fun _ => False, fun _ => False, fun _ => False⟩) :
    tSeq (tAsg (tCall (spB_law_bag K) [] E0 (tCons (tVar 0) tNil)) (gName 1)) rest E (L2.start N [.ref a]) H := by
  refine ⟨.ref a, rfl, ⟨a, ns, rfl, hS, hlen, fun H' p c _ np nc hb => ?_⟩⟩
  show rest E ((L2.start N [V.ref a]).set 1 (some (.ref p))) H'
  refine enterL (n := n) hb (List.getElem?_set_self ?_) ?_ q hs
  all_goals (simp [L2.start]; omega)

theorem upd_self {H : Hp} {a : Addr} {o : HO} (h : H a = some o) : upd H a o = H := by
  funext x
  by_cases e : x = a
  · rw [e, upd_same, h]
  · rw [upd_ne e]
def bagL (c : Addr) (i r s d : Int) : HO := .lst [.ref c, .int i, .int r, .int s, .int d]
def sp_law_pull : DSp := fun as P _ => ∃ n : Int, as = [.bag, .val (.int n)] ∧ 0 < n ∧ n < 2 ^ 62 ∧ ∀ k, 0 ≤ k → k < n → P (.int k)
theorem len_law_pull : ∀ as P X, sp_law_pull as P X → as.length = 2 := by
  rintro as P X ⟨n, rfl, _⟩
  rfl

def sp_law_pick : DSp := fun as P _ => (∃ ds : List D, as = [.bag, .val (.lst ds)] ∧ 0 < ds.length ∧ ds.length ≤ 100000 ∧ ∀ d ∈ ds, P d) ∨ ∃ s : Str, as = [.bag, .val (.str s)] ∧ 0 < s.cps.toList.length ∧ s.length ≤ 100000 ∧ ∀ c ∈ s.cps.toList, P (ch c)
theorem len_law_pick : ∀ as P X, sp_law_pick as P X → as.length = 2 := by
  rintro as P X (⟨ds, rfl, _⟩ | ⟨s, rfl, _⟩) <;> rfl

def sp_law_same (n : Nat) : DSp := fun as P _ => ∃ d : D, as = [.val d, .val d] ∧ dle n d = true ∧ P (.bl true)
theorem len_law_same (n : Nat) : ∀ as P X, sp_law_same n as P X → as.length = 2 := by
  rintro as P X ⟨n, rfl, _⟩
  rfl

def sp_law_leaks : DSp := fun as P _ => ∃ m : Int, as = [.bag, .val (.int m)] ∧ 0 < m ∧ m ≤ 1000 ∧ ∀ lk : List Bool, 1 ≤ lk.length → lk.length ≤ m.toNat → P (.lst (lk.map D.bl))
theorem len_law_leaks : ∀ as P X, sp_law_leaks as P X → as.length = 2 := by
  rintro as P X ⟨_, rfl, _⟩
  rfl

theorem other_mod {i k n : Int} (h0 : 0 ≤ i) (h1 : i < n) (k0 : 0 ≤ k) (k1 : k < n - 1) : 0 ≤ (i + 1 + k) % n ∧ (i + 1 + k) % n < n ∧ i ≠ (i + 1 + k) % n := by
  have hn : 0 < n := by omega
  refine ⟨Int.emod_nonneg _ (by omega), Int.emod_lt_of_pos _ hn, ?_⟩
  by_cases h : i + 1 + k < n
  · rw [Int.emod_eq_of_lt (by omega) h]
    omega
  · rw [← Int.sub_emod_right, Int.emod_eq_of_lt (by omega) (by omega)]
    omega
def sp_law_deed : DSp := fun as P _ => ∃ (lk : List Bool) (m : Int), as = [.bag, .val (.lst (lk.map D.bl)), .val (.int m)] ∧ 1 ≤ lk.length ∧ lk.length ≤ 1000 ∧ 0 < m ∧ m ≤ 1000 ∧ ∀ d, deedOf lk m d → P d
theorem len_law_deed : ∀ as P X, sp_law_deed as P X → as.length = 3 := by
  rintro as P X ⟨_, _, rfl, _⟩
  rfl

def modD (lk : List Bool) (es : List D) (st many : Int) : D := .lst [.lst (lk.map D.bl), .lst es, .int st, .int many]
def sp_law_model : DSp := fun as P _ => ∃ w n m k : Int, as = [.bag, .val (.int w), .val (.int n), .val (.int m), .val (.int k)] ∧ 0 < w ∧ w ≤ 4 ∧ 0 < n ∧ n ≤ 100 ∧ 0 ≤ m ∧ m ≤ 200 ∧ 0 < k ∧ k ≤ 9 ∧ ∀ (lk : List Bool) (es : List D) (st many : Int), 1 ≤ lk.length → lk.length ≤ w.toNat → es.length ≤ m.toNat → 1 ≤ many → many ≤ n → (∀ e ∈ es, edgeOk lk many k e) → 0 ≤ st → st < many → P (modD lk es st many)
theorem len_law_model : ∀ as P X, sp_law_model as P X → as.length = 5 := by
  rintro as P X ⟨_, _, _, _, rfl, _⟩
  rfl
def sp_law_made (C : Addr) : DSp := fun as P _ => ∃ (lk : List Bool) (es : List D) (st many : Int), as = [.val (modD lk es st many)] ∧ 1 ≤ lk.length ∧ lk.length ≤ 4 ∧ es.length ≤ 200 ∧ 1 ≤ many ∧ many ≤ 100 ∧ (∀ e ∈ es, edgeOk lk many 9 e) ∧ 0 ≤ st ∧ st < many ∧ P (mach C lk es st many)
theorem len_law_made {C : Addr} : ∀ as P X, sp_law_made C as P X → as.length = 1 := by
  rintro as P X ⟨_, _, _, _, rfl, _⟩
  rfl

def spLaw (K : PySem.W.Frag) : Sp := fun vs H Q _ => ∃ (a : Addr) (ns : List Int), vs = [.ref a] ∧ SqL K H a (ns.map V.int) ∧ ns.length ≤ 63 ∧ ∀ H', Q (.bl true) H'

theorem dle_all {n : Nat} (ih : ∀ d, dle n d = true → dle (n + 1) d = true) : ∀ l : List D, l.all (dle n) = true → l.all (dle (n + 1)) = true := fun l h => by
  rw [List.all_eq_true] at h ⊢
  exact fun x hx => ih x (h x hx)
theorem dle_up1 : ∀ (n : Nat) (d : D), dle n d = true → dle (n + 1) d = true
  | n + 1, .lst l, h => by
    rw [dle, Bool.and_eq_true] at h ⊢
    exact ⟨h.1, dle_all (dle_up1 n) l h.2⟩
  | n + 1, .tup l, h => by
    rw [dle, Bool.and_eq_true] at h ⊢
    exact ⟨h.1, dle_all (dle_up1 n) l h.2⟩
  | 0, .lst l, h => by simp [dle] at h
  | 0, .tup l, h => by simp [dle] at h
  | n, .non, _ => by simp [dle]
  | n, .bl _, _ => by simp [dle]
  | n, .int _, _ => by simp [dle]
  | n, .str _, _ => by simp [dle]
  | n, .ins _ _, h => by simp [dle] at h
  | n, .dct _, h => by simp [dle] at h
  | n, .raw _, h => by simp [dle] at h
theorem dle_tupI {l : List Int} (h : l.length ≤ 1000) : dle 1 (tupI l) = true := by
  rw [dle, Bool.and_eq_true, decide_eq_true_eq, List.length_map, List.all_map, List.all_eq_true]
  exact ⟨h, fun x _ => rfl⟩
theorem dle_rows {rows : List (List Int)} (h : rows.length ≤ 1000) (hr : ∀ r ∈ rows, r.length ≤ 1000) : dle 2 (.lst (rows.map tupI)) = true := by
  rw [dle, Bool.and_eq_true, decide_eq_true_eq, List.length_map, List.all_map, List.all_eq_true]
  exact ⟨h, fun r hm => dle_tupI (hr r hm)⟩

theorem dle_deed {lk : List Bool} {m : Int} {d : D} (h : deedOf lk m d) : dle 1 d = true := by
  rcases h with rfl | ⟨i, h0, h1, rfl⟩ | ⟨i, h0, h1, h2, rfl⟩ | ⟨i, j, h0, h1, h2, h3, h4, rfl⟩ | ⟨w, i, k, hw, h0, h1, h2, h3, rfl⟩ <;> rfl
theorem dle_edge {lk : List Bool} {n m : Int} {e : D} (h : edgeOk lk n m e) : dle 2 e = true := by
  obtain ⟨s, t, d, l, rfl, h0, h1, h2, h3, hd, hl, _⟩ := h
  have := dle_deed hd
  rw [dle, List.all_cons, List.all_cons, List.all_cons, List.all_cons, this]
  rfl
theorem dle_edges {lk : List Bool} {n m : Int} {es : List D} (h : ∀ e ∈ es, edgeOk lk n m e) (hl : es.length ≤ 1000) : dle 3 (.lst es) = true := by
  rw [dle, Bool.and_eq_true, decide_eq_true_eq, List.all_eq_true]
  exact ⟨hl, fun e he => dle_edge (h e he)⟩
theorem cut_take (l : List D) (i : Nat) : DL.cutD l none (some (i : Int)) = l.take i := by
  unfold DL.cutD
  rw [HT.sIx_nat, HT.sIx_none, List.drop_zero, Nat.sub_zero]
  by_cases h : i ≤ l.length
  · rw [Nat.min_eq_left h]
  · rw [Nat.min_eq_right (by omega), List.take_length, List.take_of_length_le (by omega)]
theorem cut_drop (l : List D) (i : Nat) : DL.cutD l (some (i : Int)) none = l.drop i := by
  unfold DL.cutD
  rw [HT.sIx_nat, HT.sIx_none]
  by_cases h : i ≤ l.length
  · rw [Nat.min_eq_left h, List.take_of_length_le (by rw [List.length_drop]; omega)]
  · rw [Nat.min_eq_right (by omega), List.drop_eq_nil_of_le (Nat.le_refl _), List.take_nil, List.drop_eq_nil_of_le (by omega)]

section
variable {P : Program} {w : World} {K : PySem.W.Frag} {mg : Str → Option Value} {base : Heap}
section

theorem ok_is_number (T : Txt w K mg)  : FnOk P w K mg base CX0 1 T.a_is_number T.d_is_number ["value", "least", "most"] (spOf K sp_is_number) := by
  refine okD T.F_is_number sc_is_number (fun vs H Q E h => spOf_len len_is_number h) (fun cdv A outer s H vs Q E hr h => ?_)
  have hu64 := hr.units
  have hu65 : (A.deeper (envOfC "is_number" (defScope st_is_number) s.heap.objs.size T.a_is_number cdv)).units + 65 < cLine := by have := hr.un; omega
  refine ⟨_, (pss_cons (ps_if (PW.pt (pw_or (pt_not (pt_val (pe_callB (call_isiK (K := K) rfl) (by rfl) T.n_isinstance (by decide +kernel) (pa_cons (pv 0) (pa_cons (pe_bltn (v := .ty "int") (by rfl) T.n_int (by decide +kernel) rfl) pa_nil))))) (pw_or1 (pt_val (pe_callB (call_isiK (K := K) rfl) (by rfl) T.n_isinstance (by decide +kernel) (pa_cons (pv 0) (pa_cons (pe_bltn (v := .ty "bool") (by rfl) T.n_bool (by decide +kernel) rfl) pa_nil)))))))
  (pss_one (ps_ret pe_bl))
  pss_nil)
  (pss_one (ps_ret (pe_and (pe_cmpR op_le (pv 1) (pv 0) (nomark _)) (pe_one (pe_or (pe_cmpR op_isNo (pv 2) pe_non (nomark _)) (pe_one (pe_cmpR op_le (pv 0) (pv 2) (nomark _))))))))), ?_⟩
  refine fn_body h fun F as Pp hE hs => ?_
  obtain ⟨x, lo, hi, rfl, ht, p⟩ := hs
  cases x with
  | int i =>
    cases hi with
    | none =>
      show WS K F _ [.val (.int i), .val (.int lo), .val .non] _
      walk_at "es"
      simpa [isNum] using p
    | some h =>
      show WS K F _ [.val (.int i), .val (.int lo), .val (.int h)] _
      walk_at "es"
      simpa [isNum] using p
  | ins C l => exact absurd rfl ht
  | raw v => exact absurd rfl ht
  | _ =>
    show WS K F _ [.val _, .val (.int lo), .val (optD hi)] _
    walk_at "es"
    exact p
end
section

theorem ok_is_listed (T : Txt w K mg)  : FnOk P w K mg base CX0 1 T.a_is_listed T.d_is_listed ["value"] (spOf K sp_is_listed) := by
  refine T.F_is_listed.ok sc_is_listed (fun vs H Q E h => spOf_len len_is_listed h) (fun cdv A outer s H vs Q E hr h => ?_)
  have hu64 := hr.units
  have hu65 : (A.deeper (envOfC "is_listed" (defScope st_is_listed) s.heap.objs.size T.a_is_listed cdv)).units + 65 < cLine := by have := hr.un; omega
  refine ⟨_, (pss_one (ps_ret (pe_callB (call_isiK (K := K) rfl) (by rfl) T.n_isinstance (by decide +kernel) (pa_cons (pv 0) (pa_cons (pe_tup (pa_cons (pe_bltn (v := .ty "list") (by rfl) T.n_list (by decide +kernel) rfl) (pa_cons (pe_bltn (v := .ty "tuple") (by rfl) T.n_tuple (by decide +kernel) rfl) pa_nil))) pa_nil))))), ?_⟩
  refine fn_body h fun F as Pp hE hs => ?_
  obtain ⟨x, t, rfl, ht, p⟩ := hs
  show WS K F _ [.val x] _
  refine es_ret (ev_isiLT (ev_var rfl) ht) p
end
section
local macro_rules | `(tactic| walk_at "dm") => `(tactic| exact rfl)
local macro_rules | `(tactic| walk_at "rv") => `(tactic| with_reducible exact rv_inCh)
local macro_rules | `(tactic| walk_at "len") => `(tactic| (show Str.length _ ≤ _; omega))

theorem ok_is_name (T : Txt w K mg)  : FnOk P w K mg base CX0 1 T.a_is_name T.d_is_name ["value"] (spOf K sp_is_name) := by
  refine T.F_is_name.ok sc_is_name (fun vs H Q E h => spOf_len len_is_name h) (fun cdv A outer s H vs Q E hr h => ?_)
  have hu64 := hr.units
  have hu65 : (A.deeper (envOfC "is_name" (defScope st_is_name) s.heap.objs.size T.a_is_name cdv)).units + 65 < cLine := by have := hr.un; omega
  refine ⟨_, (pss_one (ps_ret (pe_and (pe_callB (call_isiK (K := K) rfl) (by rfl) T.n_isinstance (by decide +kernel) (pa_cons (pv 0) (pa_cons (pe_bltn (v := .ty "str") (by rfl) T.n_str (by decide +kernel) rfl) pa_nil))) (pe_and (pe_chain op_le op_le pe_int (pe_callB (call_lenK (K := K) rfl) (by rfl) T.n_len (by decide +kernel) (pa_cons (pv 0) pa_nil)) (pe_glob (v := .int 6) (by rfl) T.c_MOST_NAME ⟨_, rfl⟩)) (pe_one (pe_callB (call_allK (K := K) rfl rfl) (by rfl) T.n_all (by decide +kernel) (pa_cons (pe_lc (own := [("sign", 1)]) (g := (gName 1)) (tt := tYes) rfl sc_is_name.nd (pi_str (pv 0)) (blkOk_by (N := N_is_name) (sc := defScope st_is_name) (by decide +kernel)) (fun _ _ _ _ _ => (pg_name (i := 1) sc_is_name.nd rfl (by first | exact Or.inl rfl | exact Or.inr rfl))) (fun _ _ _ _ _ => pts_nil) (fun _ _ _ _ _ => (pe_cmpR (op_inK (K := K) rfl hu65) (pv 1) (pe_glob (v := .str "abcdefghijklmnopqrstuvwxyz") (by rfl) T.c_SMALL ⟨_, rfl⟩) (by rfl)))) pa_nil))))))), ?_⟩
  refine fn_body h fun F as Pp hE hs => ?_
  obtain ⟨x, rfl, ht, hl, p⟩ := hs
  cases x with
  | str s =>
    have hl := hl s rfl
    show WS K F _ [.val (.str s), .none] _
    walk_at "es"
    have p := p
    rw [isName, ← abc_eq] at p
    exact p
  | ins C l => exact absurd rfl ht
  | raw v => exact absurd rfl ht
  | _ =>
    show WS K F _ [.val _, .none] _
    walk_at "es"
    exact p
end
section
local macro_rules | `(tactic| walk_at "rv") => `(tactic| first | exact rv_ixT (atI_nat (j := 0) (by with_unfolding_all exact rfl)) | exact rv_ixT (atI_nat (j := 1) (by with_unfolding_all exact rfl)) | exact rv_ixT (atI_nat (j := 2) (by with_unfolding_all exact rfl)))

theorem ok_is_deed (T : Txt w K mg) (G_is_number : FnOk P w K mg base CX0 1 T.a_is_number T.d_is_number ["value", "least", "most"] (spOf K sp_is_number)) : FnOk P w K mg base CX0 2 T.a_is_deed T.d_is_deed ["leaks", "value"] (spOf K sp_is_deed) := by
  refine T.F_is_deed.ok sc_is_deed (fun vs H Q E h => spOf_len len_is_deed h) (fun cdv A outer s H vs Q E hr h => ?_)
  have hu64 := hr.units
  have hu65 : (A.deeper (envOfC "is_deed" (defScope st_is_deed) s.heap.objs.size T.a_is_deed cdv)).units + 65 < cLine := by have := hr.un; omega
  refine ⟨_, (pss_cons (ps_if (PW.pt (pw_or (pt_not (pt_val (pe_callB (call_isiK (K := K) rfl) (by rfl) T.n_isinstance (by decide +kernel) (pa_cons (pv 1) (pa_cons (pe_bltn (v := .ty "tuple") (by rfl) T.n_tuple (by decide +kernel) rfl) pa_nil))))) (pw_or (pt_cmpR (op_eqK (K := K) rfl hu64) (pe_callB (call_lenK (K := K) rfl) (by rfl) T.n_len (by decide +kernel) (pa_cons (pv 1) pa_nil)) pe_int (nomark _)) (pw_or1 (pt_not (pt_val (pe_callB (call_isiK (K := K) rfl) (by rfl) T.n_isinstance (by decide +kernel) (pa_cons (pe_ix (ix_K (K := K) rfl) (pv 1) pe_int (fun _ _ => rfl)) (pa_cons (pe_bltn (v := .ty "str") (by rfl) T.n_str (by decide +kernel) rfl) pa_nil)))))))))
  (pss_one (ps_ret pe_bl))
  pss_nil)
  (pss_cons (ps_set (i := 2) sc_is_deed.nd rfl (by first | exact Or.inl rfl | exact Or.inr rfl) (pe_ix (ix_K (K := K) rfl) (pv 1) pe_int (fun _ _ => rfl)))
  (pss_cons (ps_if (PW.pt (pw_or (pt_cmpR (op_ninKD (K := K) (w := w) rfl rfl) (pv 2) (pe_glob (v := .ref T.a_LENGTHS) (by rfl) T.c_LENGTHS rfl) (by rfl)) (pw_or1 (pt_cmpR (op_neK (K := K) rfl hu64) (pe_callB (call_lenK (K := K) rfl) (by rfl) T.n_len (by decide +kernel) (pa_cons (pv 1) pa_nil)) (pe_ix (ix_KD (K := K) (w := w) rfl rfl) (pe_glob (v := .ref T.a_LENGTHS) (by rfl) T.c_LENGTHS rfl) (pv 2) (fun _ _ => rfl)) (nomark _)))))
  (pss_one (ps_ret pe_bl))
  pss_nil)
  (pss_cons (ps_if (pt_cmpR (op_eqK (K := K) rfl hu64) (pv 2) pe_str (nomark _))
  (pss_one (ps_ret pe_bl))
  pss_nil)
  (pss_cons (ps_if (pt_not (pt_val (pe_call G_is_number (hr.mono (by omega)) (by rfl) T.g_is_number T.F_is_number.kp T.b_is_number .nil pass0 (pa_cons (pe_ix (ix_K (K := K) rfl) (pv 1) pe_int (fun _ _ => rfl)) (pa_cons pe_int (pa_cons (pe_op op_sub (pe_callB (call_lenK (K := K) rfl) (by rfl) T.n_len (by decide +kernel) (pa_cons (pv 0) pa_nil)) pe_int) pa_nil))))))
  (pss_one (ps_ret pe_bl))
  pss_nil)
  (pss_cons (ps_if (pt_cmpR (op_inK (K := K) rfl hu65) (pv 2) (pe_tup (pa_cons pe_str (pa_cons pe_str pa_nil))) (by rfl))
  (pss_one (ps_ret (pe_call G_is_number (hr.mono (by omega)) (by rfl) T.g_is_number T.F_is_number.kp T.b_is_number .nil pass0 (pa_cons (pe_ix (ix_K (K := K) rfl) (pv 1) pe_int (fun _ _ => rfl)) (pa_cons pe_int (pa_cons (pe_glob (v := .int 9) (by rfl) T.c_MOST_STEP ⟨_, rfl⟩) pa_nil))))))
  pss_nil)
  (pss_cons (ps_if (pt_cmpR (op_eqK (K := K) rfl hu64) (pv 2) pe_str (nomark _))
  (pss_one (ps_ret (pe_and (pe_call G_is_number (hr.mono (by omega)) (by rfl) T.g_is_number T.F_is_number.kp T.b_is_number .nil pass0 (pa_cons (pe_ix (ix_K (K := K) rfl) (pv 1) pe_int (fun _ _ => rfl)) (pa_cons pe_int (pa_cons (pe_op op_sub (pe_callB (call_lenK (K := K) rfl) (by rfl) T.n_len (by decide +kernel) (pa_cons (pv 0) pa_nil)) pe_int) pa_nil)))) (pe_one (pe_cmpR (op_neK (K := K) rfl hu64) (pe_ix (ix_K (K := K) rfl) (pv 1) pe_int (fun _ _ => rfl)) (pe_ix (ix_K (K := K) rfl) (pv 1) pe_int (fun _ _ => rfl)) (nomark _))))))
  pss_nil)
  (pss_one (ps_ret (pe_or (pe_cmpR (op_eqK (K := K) rfl hu64) (pv 2) pe_str (nomark _)) (pe_one (pe_ix (ix_K (K := K) rfl) (pv 0) (pe_ix (ix_K (K := K) rfl) (pv 1) pe_int (fun _ _ => rfl)) (fun _ _ => rfl))))))))))))), ?_⟩
  refine fn_body h fun F as Pp hE hs => ?_
  obtain ⟨lk, y, x, rfl, hy, ht, hl, hk, p⟩ := hs
  show WS K F _ [.val y, .val x, .none] _
  cases x with
  | tup l =>
    obtain ⟨hl, hz⟩ := hl l rfl
    cases l with
    | nil =>
      walk_at "es"
      exact p
    | cons z rest =>
      cases z with
      | str wd =>
        walk_at "es1"
        apply es_if
        · walk_at "et"
        refine .inr (.inl ⟨by simp [isI]; try omega, ?_⟩)
        refine ws_next ?_
        refine ws_seq (es_set (v := .str wd) (by walk_at "ev") ?_)
        show WS K F _ [.val y, .val (.tup (.str wd :: rest)), .val (.str wd)] _
        cases hn : rows_LENGTHS.lookup wd with
        | none =>
          have hf : isDeed lk (.tup (.str wd :: rest)) = false := by
            rcases len_cases (wd := wd) with ⟨_, h⟩ | ⟨_, h⟩ | ⟨_, h⟩ | ⟨_, h⟩ | ⟨_, h⟩ | ⟨_, h⟩ | ⟨_, hf⟩
            all_goals first | exact hf lk rest | (rw [hn] at h; cases h)
          rw [hf] at p
          exact ws_seq (es_if (b := true) (et_or (a := true) (et_test (ev_op (ev_var rfl) ev_raw (rv_ninKD T.wd_LENGTHS)) (by rw [hn]; rfl)) (tor_T rfl)) (.inl ⟨rfl, es_ret ev_bl p⟩))
        | some n =>
          refine ws_seq (es_if (b := !decide (((D.str wd :: rest).length : Int) = n)) (et_or (a := false) (et_test (ev_op (ev_var rfl) ev_raw (rv_ninKDs T.wd_LENGTHS hn)) rfl) (tor_F rfl (et_test (ev_op (ev_cb (ed_cons (ev_var rfl) ed_nil) cv_lenT) (ev_op ev_raw (ev_var rfl) (rv_ixKD T.wd_LENGTHS hn)) rv_neI) rfl))) (.inr (.inr ⟨fun hb => ?_, fun hb => ?_⟩)))
          · rw [isDeed_len hn (by simpa using hb)] at p
            exact es_ret ev_bl p
          refine ws_next ?_
          have hlen : (rest.length : Int) + 1 = n := by simpa using hb
          obtain ⟨s1, s2, s3, s4, s5, s6, s7, s8, s9, s10, s11, s12, s13, s14⟩ := sw_ne
          have hcs : (wd = sw "skip" ∧ n = 1) ∨ (wd ≠ sw "skip" ∧ (((wd = sw "add" ∨ wd = sw "take") ∧ n = 3) ∨ (wd = sw "pour" ∧ n = 3) ∨ (wd = sw "clear" ∧ n = 2) ∨ (wd = sw "test" ∧ n = 2))) := by
            rcases len_cases (wd := wd) with ⟨hw, h⟩ | ⟨hw, h⟩ | ⟨hw, h⟩ | ⟨hw, h⟩ | ⟨hw, h⟩ | ⟨hw, h⟩ | ⟨h, hf⟩
            all_goals rw [hn] at h
            all_goals cases h
            · exact .inl ⟨hw, rfl⟩
            · exact .inr ⟨hw ▸ s1, .inl ⟨.inl hw, rfl⟩⟩
            · exact .inr ⟨hw ▸ s2, .inl ⟨.inr hw, rfl⟩⟩
            · exact .inr ⟨hw ▸ s4, .inr (.inr (.inl ⟨hw, rfl⟩))⟩
            · exact .inr ⟨hw ▸ s3, .inr (.inl ⟨hw, rfl⟩)⟩
            · exact .inr ⟨hw ▸ s5, .inr (.inr (.inr ⟨hw, rfl⟩))⟩
          rcases hcs with ⟨hw, rfl⟩ | ⟨hsk, hcs⟩
          · have : rest = [] := List.eq_nil_of_length_eq_zero (by omega)
            subst this
            rw [hw, isDeed_skip] at p
            exact ws_seq (es_if (b := true) (et_test (ev_op (ev_var rfl) ev_str (rv_eqSt hw)) rfl) (.inl ⟨rfl, es_ret ev_bl p⟩))
          refine ws_seq (es_if (b := false) (et_test (ev_op (ev_var rfl) ev_str (rv_eqSf hsk)) rfl) (.inr (.inl ⟨rfl, ws_next ?_⟩)))
          obtain ⟨a, tl, rfl⟩ : ∃ a tl, rest = a :: tl := by
            cases rest with
            | nil =>
              simp only [List.length_nil] at hlen
              exfalso
              rcases hcs with ⟨_, h⟩ | ⟨_, h⟩ | ⟨_, h⟩ | ⟨_, h⟩ <;> omega
            | cons a tl => exact ⟨a, tl, rfl⟩
          have hta : a.tg ≠ none := hz a (by simp)
          have iv : ∀ δ', δ' = [SD.val y, SD.val (.tup (.str wd :: a :: tl)), SD.val (.str wd)] → EV K F (tOp (rI0 fun i j => V.int (i - j)) (tCB (rLenA K) (tCons (tVar 0) tNil)) (tC (V.int 1))) δ' (.int ((lk.length : Int) - 1)) := by
            rintro _ rfl
            exact ev_op (ev_cb (ed_cons (ev_var rfl) ed_nil) (cv_lenY hy)) ev_int rv_i0
          refine ws_seq (es_if (b := !isNum a 0 (some (lk.length - 1))) (et_not (et_B (ev_call (ds := [a, .int 0, .int ((lk.length : Int) - 1)]) (ed_cons (ev_op (ev_var rfl) ev_int (rv_ixT (atI_nat (j := 1) rfl))) (ed_cons ev_int (ed_cons (iv _ rfl) ed_nil))) ⟨a, 0, some ((lk.length : Int) - 1), rfl, hta, rfl⟩) rfl)) (.inr (.inr ⟨fun hb => es_ret ev_bl ?_, fun hb => ws_next ?_⟩)))
          · have hnum : isNum a 0 (some ((lk.length : Int) - 1)) = false := by simpa using hb
            have hf : isDeed lk (.tup (.str wd :: a :: tl)) = false := by
              rcases hcs with ⟨hw, rfl⟩ | ⟨hw, rfl⟩ | ⟨hw, rfl⟩ | ⟨hw, rfl⟩
              · rw [isDeed_at hw]
                rcases tl with _ | ⟨b, _ | ⟨c, r⟩⟩ <;> simp [hnum]
              · subst hw
                rw [isDeed_pour]
                rcases tl with _ | ⟨b, _ | ⟨c, r⟩⟩ <;> first | rfl | (cases a <;> first | rfl | (cases b <;> first | rfl | (simp only [hnum]; rfl)))
              · subst hw
                rw [isDeed_clear]
                rcases tl with _ | ⟨b, r⟩ <;> simp [hnum]
              · subst hw
                rw [isDeed_test]
                rcases tl with _ | ⟨b, r⟩ <;> first | rfl | (cases a <;> first | rfl | (simp only [hnum]; rfl))
            rw [hf] at p
            exact p
          have hnum : isNum a 0 (some ((lk.length : Int) - 1)) = true := by simpa using hb
          obtain ⟨i, rfl, i0, i1⟩ := isNum_inv hnum
          rcases hcs with ⟨hw, rfl⟩ | hcs
          · obtain ⟨b, rfl⟩ : ∃ b, tl = [b] := by
              rcases tl with _ | ⟨b, _ | ⟨c, r⟩⟩
              · simp at hlen
              · exact ⟨b, rfl⟩
              · simp at hlen; omega
            have htb : b.tg ≠ none := hz b (by simp)
            rw [isDeed_at hw] at p
            simp only [hnum, Bool.true_and] at p
            exact ws_seq (es_if (b := true) (et_test (ev_op (ev_var rfl) (ev_tup (ed_cons ev_str (ed_cons ev_str ed_nil)) (by simp)) (rv_inSt (l := [sw "add", sw "take"]) (by simpa using hw))) rfl) (.inl ⟨rfl, es_ret (ev_call (ds := [b, .int 1, .int 9]) (ed_cons (ev_op (ev_var rfl) ev_int (rv_ixT (atI_nat (j := 2) rfl))) (ed_cons ev_int (ed_cons ev_int ed_nil))) ⟨b, 1, some 9, rfl, htb, rfl⟩) p⟩))
          have hna : wd ∉ [sw "add", sw "take"] := by
            simp only [List.mem_cons, List.not_mem_nil, or_false]
            rcases hcs with ⟨rfl, _⟩ | ⟨rfl, _⟩ | ⟨rfl, _⟩
            · exact not_or.mpr ⟨s6, s7⟩
            · exact not_or.mpr ⟨s8, s9⟩
            · exact not_or.mpr ⟨s10, s11⟩
          refine ws_seq (es_if (b := false) (et_test (ev_op (ev_var rfl) (ev_tup (ed_cons ev_str (ed_cons ev_str ed_nil)) (by simp)) (rv_inSf (l := [sw "add", sw "take"]) hna)) rfl) (.inr (.inl ⟨rfl, ws_next ?_⟩)))
          rcases hcs with ⟨hw, rfl⟩ | hcs
          · obtain ⟨b, rfl⟩ : ∃ b, tl = [b] := by
              rcases tl with _ | ⟨b, _ | ⟨c, r⟩⟩
              · simp at hlen
              · exact ⟨b, rfl⟩
              · simp at hlen; omega
            have htb : b.tg ≠ none := hz b (by simp)
            refine ws_seq (es_if (b := true) (et_test (ev_op (ev_var rfl) ev_str (rv_eqSt hw)) rfl) (.inl ⟨rfl, ?_⟩))
            subst hw
            cases hb2 : isNum b 0 (some ((lk.length : Int) - 1)) with
            | false =>
              have e : isDeed lk (.tup (.str (sw "pour") :: [.int i, b])) = false := by
                rw [isDeed_pour]
                cases b <;> first | rfl | (simp only [hb2, Bool.false_and, Bool.and_false])
              rw [e] at p
              exact es_ret (ev_and (ev_call (v := .bl false) (ds := [b, .int 0, .int ((lk.length : Int) - 1)]) (ed_cons (ev_op (ev_var rfl) ev_int (rv_ixT (atI_nat (j := 2) rfl))) (ed_cons ev_int (ed_cons (iv _ rfl) ed_nil))) ⟨b, 0, some ((lk.length : Int) - 1), rfl, htb, by rw [hb2]⟩) (and_F rfl)) p
            | true =>
              obtain ⟨j, rfl, j0, j1⟩ := isNum_inv hb2
              rw [isDeed_pour] at p
              simp only [hnum, hb2, Bool.true_and] at p
              exact es_ret (ev_and (ev_call (v := .bl true) (ds := [.int j, .int 0, .int ((lk.length : Int) - 1)]) (ed_cons (ev_op (ev_var rfl) ev_int (rv_ixT (atI_nat (j := 2) rfl))) (ed_cons ev_int (ed_cons (iv _ rfl) ed_nil))) ⟨.int j, 0, some ((lk.length : Int) - 1), rfl, htb, by rw [hb2]⟩) (and_T rfl (ev_op (ev_op (ev_var rfl) ev_int (rv_ixT (atI_nat (j := 1) rfl))) (ev_op (ev_var rfl) ev_int (rv_ixT (atI_nat (j := 2) rfl))) rv_neI))) p
          obtain rfl : tl = [] := by
            rcases tl with _ | ⟨b, r⟩
            · rfl
            · rcases hcs with ⟨_, rfl⟩ | ⟨_, rfl⟩ <;> (simp at hlen; try omega)
          have hnp : wd ≠ sw "pour" := by rcases hcs with ⟨rfl, _⟩ | ⟨rfl, _⟩; exact s12; exact s13
          refine ws_seq (es_if (b := false) (et_test (ev_op (ev_var rfl) ev_str (rv_eqSf hnp)) rfl) (.inr (.inl ⟨rfl, ws_next ?_⟩)))
          rcases hcs with ⟨hw, rfl⟩ | ⟨hw, rfl⟩
          · have c1 := rv_eqSt (K := K) (F := F) hw
            rw [hw, isDeed_clear] at p
            simp only [hnum] at p
            exact es_ret (ev_or (ev_op (ev_var rfl) ev_str c1) (or_T rfl)) p
          · have c1 := rv_eqSf (K := K) (F := F) (s := wd) (t := sw "clear") (hw ▸ s14)
            rw [hw, isDeed_test] at p
            simp only [hnum, Bool.true_and] at p
            exact es_ret (ev_or (ev_op (ev_var rfl) ev_str c1) (or_F rfl (ev_op (ev_var rfl) (ev_op (ev_var rfl) ev_int (rv_ixT (atI_nat (j := 1) rfl))) (rv_ixY hy i0 i1)))) p
      | ins C l => exact absurd rfl (hz _ (List.mem_cons_self ..))
      | raw v => exact absurd rfl (hz _ (List.mem_cons_self ..))
      | _ =>
        walk_at "es1"
        apply es_if
        · walk_at "et"
        refine .inl ⟨by simp [isI], ?_⟩
        walk_at "es"
        exact p
  | ins C l => exact absurd rfl ht
  | raw v => exact absurd rfl ht
  | _ =>
    walk_at "es"
    exact p
end
section

theorem ok_is_edge (T : Txt w K mg) (G_is_number : FnOk P w K mg base CX0 1 T.a_is_number T.d_is_number ["value", "least", "most"] (spOf K sp_is_number)) (G_is_deed : FnOk P w K mg base CX0 2 T.a_is_deed T.d_is_deed ["leaks", "value"] (spOf K sp_is_deed)) (G_is_name : FnOk P w K mg base CX0 1 T.a_is_name T.d_is_name ["value"] (spOf K sp_is_name)) : FnOk P w K mg base CX0 3 T.a_is_edge T.d_is_edge ["leaks", "nodes", "value"] (spOf K sp_is_edge) := by
  refine T.F_is_edge.ok sc_is_edge (fun vs H Q E h => spOf_len len_is_edge h) (fun cdv A outer s H vs Q E hr h => ?_)
  have hu64 := hr.units
  have hu65 : (A.deeper (envOfC "is_edge" (defScope st_is_edge) s.heap.objs.size T.a_is_edge cdv)).units + 65 < cLine := by have := hr.un; omega
  refine ⟨_, (pss_cons (ps_if (PW.pt (pw_or (pt_not (pt_val (pe_callB (call_isiK (K := K) rfl) (by rfl) T.n_isinstance (by decide +kernel) (pa_cons (pv 2) (pa_cons (pe_bltn (v := .ty "tuple") (by rfl) T.n_tuple (by decide +kernel) rfl) pa_nil))))) (pw_or1 (pt_cmpR (op_neK (K := K) rfl hu64) (pe_callB (call_lenK (K := K) rfl) (by rfl) T.n_len (by decide +kernel) (pa_cons (pv 2) pa_nil)) pe_int (nomark _)))))
  (pss_one (ps_ret pe_bl))
  pss_nil)
  (pss_cons (ps_asg (pv 2) (pg_tup (by rfl) (pgs_cons (pg_name (i := 3) sc_is_edge.nd rfl (by first | exact Or.inl rfl | exact Or.inr rfl)) (pgs_cons (pg_name (i := 4) sc_is_edge.nd rfl (by first | exact Or.inl rfl | exact Or.inr rfl)) (pgs_cons (pg_name (i := 5) sc_is_edge.nd rfl (by first | exact Or.inl rfl | exact Or.inr rfl)) (pgs_cons (pg_name (i := 6) sc_is_edge.nd rfl (by first | exact Or.inl rfl | exact Or.inr rfl)) pgs_nil))))))
  (pss_cons (ps_if (PW.pt (pw_or (pt_not (pt_val (pe_call G_is_number (hr.mono (by omega)) (by rfl) T.g_is_number T.F_is_number.kp T.b_is_number .nil pass0 (pa_cons (pv 3) (pa_cons pe_int (pa_cons (pe_op op_sub (pv 1) pe_int) pa_nil)))))) (pw_or1 (pt_not (pt_val (pe_call G_is_number (hr.mono (by omega)) (by rfl) T.g_is_number T.F_is_number.kp T.b_is_number .nil pass0 (pa_cons (pv 5) (pa_cons pe_int (pa_cons (pe_op op_sub (pv 1) pe_int) pa_nil)))))))))
  (pss_one (ps_ret pe_bl))
  pss_nil)
  (pss_one (ps_ret (pe_and (pe_call G_is_deed (hr.mono (by omega)) (by rfl) T.g_is_deed T.F_is_deed.kp T.b_is_deed .nil pass0 (pa_cons (pv 0) (pa_cons (pv 4) pa_nil))) (pe_one (pe_or (pe_call G_is_name (hr.mono (by omega)) (by rfl) T.g_is_name T.F_is_name.kp T.b_is_name .nil pass0 (pa_cons (pv 6) pa_nil)) (pe_one (pe_and (pe_callB (call_isiK (K := K) rfl) (by rfl) T.n_isinstance (by decide +kernel) (pa_cons (pv 6) (pa_cons (pe_bltn (v := .ty "str") (by rfl) T.n_str (by decide +kernel) rfl) pa_nil))) (pe_one (pe_cmpR (op_eqK (K := K) rfl hu64) (pv 6) pe_str (nomark _))))))))))))), ?_⟩
  refine fn_body h fun F as Pp hE hs => ?_
  obtain ⟨lk, n, e, rfl, ⟨sr, tg, dd, lb, rfl, h1, h2, h3, h4, h5, h6, h7⟩, hlk, p⟩ := hs
  obtain ⟨items, rfl, _⟩ := deedOf_tup h5
  obtain ⟨i0, i1, i2, i3, i4⟩ := deed_items h5 rfl hlk
  have ask := askB_ok i4
  have hok := isDeed_drawn h5
  have n1 : isNum (.int sr) 0 (some (n - 1)) = true := isNum_in h1 (by omega)
  have n2 : isNum (.int tg) 0 (some (n - 1)) = true := isNum_in h3 (by omega)
  show WS K F _ [.val (.lst (lk.map D.bl)), .val (.int n), .val (.tup [.int sr, .tup items, .int tg, .str lb]), .none, .none, .none, .none] _
  walk_at "es1"
  walk_at "es1"
  walk_at "es1"
  walk_at "es1"
  refine es_asg (ev_var rfl) (eg_tup rfl (egs_nm (egs_nm (egs_nm (egs_nm egs_nil))))) ?_
  have sp1 : ∀ i, isNum (.int i) 0 (some (n - 1)) = true → sp_is_number [.val (.int i), .val (.int 0), .val (.int (n - 1))] (fun d => d = .bl true) X0 := fun i h => ⟨.int i, 0, some (n - 1), rfl, by simp [D.tg], by rw [h]⟩
  refine ws_seq (es_if (b := false) (et_or (a := false) (et_not (b := true) (et_B (ev_call (ds := [.int sr, .int 0, .int (n - 1)]) (by walk_at "ed") (sp1 sr n1)) rfl)) (tor_F rfl (et_not (b := true) (et_B (ev_call (ds := [.int tg, .int 0, .int (n - 1)]) (by walk_at "ed") (sp1 tg n2)) rfl)))) (.inr (.inl ⟨rfl, ws_next ?_⟩)))
  refine es_ret ?_ p
  refine ev_and (x := .bl true) (ev_call (ds := [.lst (lk.map D.bl), .tup items]) (by walk_at "ed") ⟨lk, _, _, rfl, .inl rfl, ask.1, ask.2, hlk, by rw [hok]⟩) (and_T rfl ?_)
  rcases h6 with h6 | rfl
  · exact ev_or (x := .bl true) (ev_call (ds := [.str lb]) (by walk_at "ed") ⟨_, rfl, by simp [D.tg], fun s e => (by cases e; omega), by rw [h6]⟩) (or_T rfl)
  · refine ev_or (x := .bl false) (ev_call (ds := [.str (sw "")]) (by walk_at "ed") ⟨_, rfl, by simp [D.tg], fun s e => (by cases e; decide +kernel), congrArg D.bl (by decide +kernel)⟩) (or_F rfl ?_)
    exact ev_and (x := .bl true) (ev_cb (ed_cons (ev_var rfl) (ed_cons ev_raw ed_nil)) (rc_isiStr rfl rfl)) (and_T rfl (ev_op (ev_var rfl) ev_str (rv_eqSt rfl)))
end
section

theorem ok_is_leaks (T : Txt w K mg) (G_is_listed : FnOk P w K mg base CX0 1 T.a_is_listed T.d_is_listed ["value"] (spOf K sp_is_listed)) : FnOk P w K mg base CX0 2 T.a_is_leaks T.d_is_leaks ["value"] (spOf K sp_is_leaks) := by
  refine T.F_is_leaks.ok sc_is_leaks (fun vs H Q E h => spOf_len len_is_leaks h) (fun cdv A outer s H vs Q E hr h => ?_)
  have hu64 := hr.units
  have hu65 : (A.deeper (envOfC "is_leaks" (defScope st_is_leaks) s.heap.objs.size T.a_is_leaks cdv)).units + 65 < cLine := by have := hr.un; omega
  refine ⟨_, (pss_cons (ps_if (PW.pt (pw_or (pt_not (pt_val (pe_call G_is_listed (hr.mono (by omega)) (by rfl) T.g_is_listed T.F_is_listed.kp T.b_is_listed .nil pass0 (pa_cons (pv 0) pa_nil)))) (pw_or1 (pt_not (pt_chain op_le op_le pe_int (pe_callB (call_lenK (K := K) rfl) (by rfl) T.n_len (by decide +kernel) (pa_cons (pv 0) pa_nil)) (pe_glob (v := .int 4) (by rfl) T.c_MOST_WIDTH ⟨_, rfl⟩))))))
  (pss_one (ps_ret pe_bl))
  pss_nil)
  (pss_one (ps_ret (pe_callB (call_allK (K := K) rfl rfl) (by rfl) T.n_all (by decide +kernel) (pa_cons (pe_lc (own := [("leak", 1)]) (g := (gName 1)) (tt := tYes) rfl sc_is_leaks.nd (pi_listK (K := K) rfl (pv 0)) (blkOk_by (N := N_is_leaks) (sc := defScope st_is_leaks) (by decide +kernel)) (fun _ _ _ _ _ => (pg_name (i := 1) sc_is_leaks.nd rfl (by first | exact Or.inl rfl | exact Or.inr rfl))) (fun _ _ _ _ _ => pts_nil) (fun _ _ _ _ _ => (pe_callB (call_isiK (K := K) rfl) (by rfl) T.n_isinstance (by decide +kernel) (pa_cons (pv 1) (pa_cons (pe_bltn (v := .ty "bool") (by rfl) T.n_bool (by decide +kernel) rfl) pa_nil))))) pa_nil))))), ?_⟩
  refine fn_body h fun F as Pp hE hs => ?_
  obtain ⟨lk, rfl, l1, l2, p⟩ := hs
  show WS K F _ [.val (.lst (lk.map D.bl)), .none] _
  refine ws_seq (es_if (b := false) (et_or (a := false) (et_not (b := true) (et_B (ev_call (ds := [.lst (lk.map D.bl)]) (ed_cons (ev_var rfl) ed_nil) ⟨_, .lst, rfl, rfl, rfl⟩) rfl)) (tor_F rfl (et_not (b := true) (et_test (ev_chainS (a := true) (b := true) ev_int (ev_cb (ed_cons (ev_var rfl) ed_nil) cv_lenL) (rd_b0 ?a1) (fun _ => ev_int) (fun _ => rd_b0 ?a2)) rfl)))) (.inr (.inl ⟨rfl, ws_next ?_⟩)))
  case a1 =>
    rw [List.length_map]
    exact congrArg D.bl (decide_eq_true (by omega))
  case a2 =>
    rw [List.length_map]
    exact congrArg D.bl (decide_eq_true (by omega))
  refine es_ret (ev_cb (ds := [.lst (lk.map fun _ => D.bl true)]) (ed_cons ?_ ed_nil) (cv_all (g := fun _ => true))) ?_
  · apply ev_map (α := Bool) (xs := lk) (enc := D.bl) (f := fun _ => .bl true) (ts := [1])
    · walk_at "ei"
    · exact rfl
    · omega
    · intro x
      walk_at "eg"
    · intro x hx
      exact ev_cb (ed_cons (ev_var rfl) (ed_cons ev_raw ed_nil)) (rc_isiBl rfl rfl)
    · decide
  · have : (lk.all fun _ => true) = true := List.all_eq_true.mpr fun _ _ => rfl
    rw [this]
    exact p
end
section
local macro_rules | `(tactic| walk_at "sp") => `(tactic| assumption)

theorem ok_Machine_init (T : Txt w K mg) (G_is_number : FnOk P w K mg base CX0 1 T.a_is_number T.d_is_number ["value", "least", "most"] (spOf K sp_is_number)) (G_is_leaks : FnOk P w K mg base CX0 2 T.a_is_leaks T.d_is_leaks ["value"] (spOf K sp_is_leaks)) (G_is_edge : FnOk P w K mg base CX0 3 T.a_is_edge T.d_is_edge ["leaks", "nodes", "value"] (spOf K sp_is_edge)) : FnOk P w K mg base CX0 4 T.a_Machine_init T.d_Machine_init ["self", "leaks", "edges", "start", "nodes"] (spIOf K T.a_Machine sp_Machine_init) := by
  refine okD T.F_Machine_init sc_Machine_init (fun vs H Q E h => spIOf_len len_Machine_init h) (fun cdv A outer s H vs Q E hr h => ?_)
  have hu64 := hr.units
  have hu65 : (A.deeper (envOfC "Machine.__init__" (defScope st_Machine_init) s.heap.objs.size T.a_Machine_init cdv)).units + 65 < cLine := by have := hr.un; omega
  refine ⟨_, (pss_cons (ps_if (pt_not (pt_val (pe_call G_is_leaks (hr.mono (by omega)) (by rfl) T.g_is_leaks T.F_is_leaks.kp T.b_is_leaks .nil pass0 (pa_cons (pv 1) pa_nil))))
  (pss_one ps_never)
  pss_nil)
  (pss_cons (ps_if (PW.pt (pw_and (pt_cmpR op_notNo (pv 4) pe_non (nomark _)) (pw_and1 (pt_not (pt_val (pe_call G_is_number (hr.mono (by omega)) (by rfl) T.g_is_number T.F_is_number.kp T.b_is_number .nil pass0 (pa_cons (pv 4) (pa_cons pe_int (pa_cons (pe_cvalK (K := K) rfl (pe_glob (v := .ref T.a_Machine) (by rfl) T.c_Machine rfl)) pa_nil)))))))))
  (pss_one ps_never)
  pss_nil)
  (pss_cons (ps_set (i := 5) sc_Machine_init.nd rfl (by first | exact Or.inl rfl | exact Or.inr rfl) (pe_ifExp (pt_cmpR op_isNo (pv 4) pe_non (nomark _)) (pe_cvalK (K := K) rfl (pe_glob (v := .ref T.a_Machine) (by rfl) T.c_Machine rfl)) (pv 4)))
  (pss_cons (ps_for PassesOwn.never rfl (pi_enumK (K := K) rfl (pi_enum (by rfl) T.n_enumerate (pa_cons (pv 2) pa_nil))) (pg_tup (by rfl) (pgs_cons (pg_name (i := 6) sc_Machine_init.nd rfl (by first | exact Or.inl rfl | exact Or.inr rfl)) (pgs_cons (pg_name (i := 7) sc_Machine_init.nd rfl (by first | exact Or.inl rfl | exact Or.inr rfl)) pgs_nil)))
  (pss_one (ps_if (pt_not (pt_val (pe_call G_is_edge (hr.mono (by omega)) (by rfl) T.g_is_edge T.F_is_edge.kp T.b_is_edge .nil pass0 (pa_cons (pv 1) (pa_cons (pv 5) (pa_cons (pv 7) pa_nil))))))
  (pss_one ps_never)
  pss_nil)))
  (pss_cons (ps_if (pt_cmpR op_gt (pe_callB (call_lenK (K := K) rfl) (by rfl) T.n_len (by decide +kernel) (pa_cons (pv 2) pa_nil)) (pe_cvalK (K := K) rfl (pe_glob (v := .ref T.a_Machine) (by rfl) T.c_Machine rfl)) (nomark _))
  (pss_one ps_never)
  pss_nil)
  (pss_cons (ps_if (pt_not (pt_val (pe_call G_is_number (hr.mono (by omega)) (by rfl) T.g_is_number T.F_is_number.kp T.b_is_number .nil pass0 (pa_cons (pv 3) (pa_cons pe_int (pa_cons (pe_op op_sub (pv 5) pe_int) pa_nil))))))
  (pss_one ps_never)
  pss_nil)
  (pss_cons (ps_fldK (K := K) rfl (pv 0) (pe_callTy (call_listK (K := K) rfl) (by rfl) T.n_list (by decide +kernel) (pa_cons (pv 1) pa_nil)) rfl)
  (pss_cons (ps_fldK (K := K) rfl (pv 0) (pe_callTy (call_listK (K := K) rfl) (by rfl) T.n_list (by decide +kernel) (pa_cons (pv 2) pa_nil)) rfl)
  (pss_cons (ps_fldK (K := K) rfl (pv 0) (pv 3) rfl)
  (pss_cons (ps_set (i := 8) sc_Machine_init.nd rfl (by first | exact Or.inl rfl | exact Or.inr rfl) (pe_op (op_addK (K := K) rfl) (pe_op (op_addK (K := K) rfl) (pe_lst (pa_cons (pv 3) pa_nil)) (pe_lc (own := [("edge", 7)]) (g := (gName 7)) (tt := tYes) rfl sc_Machine_init.nd (pi_listK (K := K) rfl (pv 2)) (blkOk_by (N := N_Machine_init) (sc := defScope st_Machine_init) (by decide +kernel)) (fun _ _ _ _ _ => (pg_name (i := 7) sc_Machine_init.nd rfl (by first | exact Or.inl rfl | exact Or.inr rfl))) (fun _ _ _ _ _ => pts_nil) (fun _ _ _ _ _ => (pe_ix (ix_K (K := K) rfl) (pv 7) pe_int (fun _ _ => rfl))))) (pe_lc (own := [("edge", 7)]) (g := (gName 7)) (tt := tYes) rfl sc_Machine_init.nd (pi_listK (K := K) rfl (pv 2)) (blkOk_by (N := N_Machine_init) (sc := defScope st_Machine_init) (by decide +kernel)) (fun _ _ _ _ _ => (pg_name (i := 7) sc_Machine_init.nd rfl (by first | exact Or.inl rfl | exact Or.inr rfl))) (fun _ _ _ _ _ => pts_nil) (fun _ _ _ _ _ => (pe_ix (ix_K (K := K) rfl) (pv 7) pe_int (fun _ _ => rfl))))))
  (pss_one (ps_fldK (K := K) rfl (pv 0) (pe_ifExp (pt_cmpR op_isNo (pv 4) pe_non (nomark _)) (pe_op (op_addK (K := K) rfl) (pe_callB (call_maxK (K := K) rfl rfl) (by rfl) T.n_max (by decide +kernel) (pa_cons (pv 8) pa_nil)) pe_int) (pv 4)) rfl)))))))))))), ?_⟩
  refine init_body h fun F as Pp x hE hs => ?_
  obtain ⟨lk, es, st, nodes, most, nd, rfl, l1, l2, hes, hnodes, hed, s0, s1, p⟩ := hs
  have hm1 : 1 ≤ most ∧ most ≤ 100 := by rcases hnodes with ⟨_, _, h1, h2⟩ | ⟨_, h, _⟩ <;> omega
  have hnum : ∀ i h, 0 ≤ i → i ≤ h → sp_is_number [.val (.int i), .val (.int 0), .val (.int h)] (fun d => d = .bl true) X0 := fun i h h0 h1 => ⟨.int i, 0, some h, rfl, by simp [D.tg], by rw [isNum_in h0 h1]⟩
  have hedge : ∀ e ∈ es, sp_is_edge [.val (.lst (lk.map D.bl)), .val (.int most), .val e] (fun d => d = .bl true) X0 := fun e he => ⟨lk, most, e, rfl, hed e he, by omega, rfl⟩
  show WS K F _ [.own (.slf x T.a_Machine []), .val (.lst (lk.map D.bl)), .val (.lst es), .val (.int st), .val nodes, .none, .none, .none, .none] _
  refine ws_seq (es_if (b := false) (et_not (b := true) (et_B (ev_call (ds := [.lst (lk.map D.bl)]) (by walk_at "ed") ⟨lk, rfl, l1, l2, rfl⟩) rfl)) (.inr (.inl ⟨rfl, ws_next ?_⟩)))
  refine ws_seq (es_if (b := false) (by
    rcases hnodes with ⟨rfl, hnd, h1, h100⟩ | ⟨rfl, rfl, hnd⟩
    · exact et_and (a := true) (et_test (ev_op (ev_var rfl) ev_non (rv_notN (fun _ hh => by cases hh))) rfl) (tand_T rfl (et_not (b := true) (et_B (ev_call (ds := [.int most, .int 1, .int 100]) (by walk_at "ed") ⟨.int most, 1, some 100, rfl, by simp [D.tg], by simp [isNum, h1, h100]⟩) rfl)))
    · exact et_and (a := false) (et_test (ev_op (ev_var rfl) ev_non (rv_notN (fun _ hh => by cases hh))) rfl) (tand_F rfl)) (.inr (.inl ⟨rfl, ws_next ?_⟩)))
  refine ws_seq (es_set (v := .int most) (by
    rcases hnodes with ⟨rfl, hnd, h1, h100⟩ | ⟨rfl, rfl, hnd⟩
    · exact ev_if (b := false) (et_test (ev_op (ev_var rfl) ev_non (rv_isN (fun _ hh => by cases hh))) rfl) (if_F rfl (ev_var rfl))
    · exact ev_if (b := true) (et_test (ev_op (ev_var rfl) ev_non (rv_isN (fun _ hh => by cases hh))) rfl) (if_T rfl (by walk_at "ev"))) ?_)
  refine ws_seq (es_for (ts := [6, 7]) (ei_enum (by walk_at "ed")) (fun i δ' => ∃ y z, δ' = [.own (.slf x T.a_Machine []), .val (.lst (lk.map D.bl)), .val (.lst es), .val (.int st), .val nodes, .val (.int most), y, z, .none]) ⟨_, _, rfl⟩ (fun i d δ' hd hi => ?_) (fun δ' hi => ?_))
  · obtain ⟨y, z, rfl⟩ := hi
    obtain ⟨e, he, rfl⟩ := enumD_get hd
    refine wg_tup rfl (wgs_nm (wgs_nm (wgs_nil ?_)))
    refine es_if (b := false) (et_not (b := true) (et_B (ev_call (ds := [.lst (lk.map D.bl), .int most, e]) (by walk_at "ed") (hedge e (List.mem_of_getElem? he))) rfl)) (.inr (.inl ⟨rfl, ws_next ?_⟩))
    exact ⟨_, _, rfl⟩
  · obtain ⟨y, z, rfl⟩ := hi
    show WS K F _ [.own (.slf x T.a_Machine []), .val (.lst (lk.map D.bl)), .val (.lst es), .val (.int st), .val nodes, .val (.int most), y, z, .none] _
    refine ws_seq (es_if (b := false) (et_test (ev_op (x := .int es.length) (y := .int 200) (by walk_at "ev") (by walk_at "ev") rv_b0) (congrArg D.bl (decide_eq_false (by omega)))) (.inr (.inl ⟨rfl, ws_next ?_⟩)))
    refine ws_seq (es_if (b := false) (et_not (b := true) (et_B (ev_call (ds := [.int st, .int 0, .int (most - 1)]) (by walk_at "ed") (hnum st (most - 1) s0 (by omega))) rfl)) (.inr (.inl ⟨rfl, ws_next ?_⟩)))
    refine ws_seq (es_setF (Txt.cl_Machine _) (Txt.na_Machine_own_leaks _) rfl (by simp) (v := .lst (lk.map D.bl)) (by walk_at "ev") ?_)
    rw [pg_Machine_own_leaks]
    refine ws_seq (es_setF (Txt.cl_Machine _) (Txt.na_Machine_own_edges _) rfl (by simp) (v := .lst es) (by walk_at "ev") ?_)
    rw [pg_Machine_own_edges]
    refine ws_seq (es_setF (Txt.cl_Machine _) (Txt.na_Machine_own_start _) rfl (by simp) (v := .int st) (by walk_at "ev") ?_)
    rw [pg_Machine_own_start]
    have hu : ([D.int st] ++ (es.map fun e => D.int (srcOf e)) ++ (es.map fun e => D.int (tgtOf e))) = (st :: (es.map srcOf ++ es.map tgtOf)).map D.int := by
      simp [List.map_append, List.map_map, Function.comp_def]
    refine ws_seq (es_set (v := .lst ((st :: (es.map srcOf ++ es.map tgtOf)).map D.int)) (ev_to (ev_op (ev_op (x := .lst [.int st]) (by walk_at "ev") ?e1 (rv_cat ?e3)) ?e2 (rv_cat ?e4)) (congrArg D.lst hu)) ?_)
    case e1 =>
      apply ev_map (α := D) (xs := es) (enc := id) (f := fun e => .int (srcOf e)) (ts := [7])
      · walk_at "ei"
      · exact (List.map_id _).symm
      · omega
      · intro x
        walk_at "eg"
      · intro e he
        obtain ⟨s, t, d, l, rfl, _⟩ := hed e he
        exact ev_op (ev_var rfl) ev_int (rv_ixT (atI_nat (j := 0) rfl))
      · decide
    case e2 =>
      apply ev_map (α := D) (xs := es) (enc := id) (f := fun e => .int (tgtOf e)) (ts := [7])
      · walk_at "ei"
      · exact (List.map_id _).symm
      · omega
      · intro x
        walk_at "eg"
      · intro e he
        obtain ⟨s, t, d, l, rfl, _⟩ := hed e he
        exact ev_op (ev_var rfl) ev_int (rv_ixT (atI_nat (j := 2) rfl))
      · decide
    case e3 => simp; omega
    case e4 => simp; omega
    show WS K F _ [.own (.slf x T.a_Machine _), .val (.lst (lk.map D.bl)), .val (.lst es), .val (.int st), .val nodes, .val (.int most), y, z, .val (.lst ((st :: (es.map srcOf ++ es.map tgtOf)).map D.int))] _
    refine es_setF (Txt.cl_Machine _) (Txt.na_Machine_own_nodes _) rfl (by simp) (v := .int nd) ?_ ?_
    · rcases hnodes with ⟨rfl, rfl, h1, h100⟩ | ⟨rfl, rfl, rfl⟩
      · exact ev_if (b := false) (et_test (ev_op (ev_var rfl) ev_non (rv_isN (fun _ hh => by cases hh))) rfl) (if_F rfl (ev_var rfl))
      · refine ev_if (b := true) (et_test (ev_op (ev_var rfl) ev_non (rv_isN (fun _ hh => by cases hh))) rfl) (if_T rfl ?_)
        refine ev_op (ev_cb (ed_cons (ev_var rfl) ed_nil) ?_) ev_int rv_add
        have := cv_maxM (K := K) (F := F) (xs := st :: (es.map srcOf ++ es.map tgtOf)) (g := id) (by simp)
        rw [List.map_id] at this
        exact this
    · rw [pg_Machine_own_nodes]
      exact ⟨_, rfl, p⟩
end
section

theorem ok_Machine_nodes (T : Txt w K mg)  : FnOk P w K mg base CX0 1 T.a_Machine_nodes T.d_Machine_nodes ["self"] (spOf K (sp_Machine_nodes T.a_Machine)) := by
  refine T.F_Machine_nodes.ok sc_Machine_nodes (fun vs H Q E h => spOf_len len_Machine_nodes h) (fun cdv A outer s H vs Q E hr h => ?_)
  have hu64 := hr.units
  have hu65 : (A.deeper (envOfC "Machine.nodes" (defScope st_Machine_nodes) s.heap.objs.size T.a_Machine_nodes cdv)).units + 65 < cLine := by have := hr.un; omega
  refine ⟨_, (pss_one (ps_ret (pe_fldK (K := K) rfl (pv 0) rfl))), ?_⟩
  refine fn_body h fun F as Pp hE hs => ?_
  obtain ⟨lk, es, st, nd, rfl, p⟩ := hs
  show WS K F _ [.val (mach T.a_Machine lk es st nd)] _
  exact es_ret (by walk_at "ev") p
end
section

theorem ok_Machine_start (T : Txt w K mg)  : FnOk P w K mg base CX0 1 T.a_Machine_start T.d_Machine_start ["self"] (spOf K (sp_Machine_start T.a_Machine)) := by
  refine T.F_Machine_start.ok sc_Machine_start (fun vs H Q E h => spOf_len len_Machine_start h) (fun cdv A outer s H vs Q E hr h => ?_)
  have hu64 := hr.units
  have hu65 : (A.deeper (envOfC "Machine.start" (defScope st_Machine_start) s.heap.objs.size T.a_Machine_start cdv)).units + 65 < cLine := by have := hr.un; omega
  refine ⟨_, (pss_one (ps_ret (pe_fldK (K := K) rfl (pv 0) rfl))), ?_⟩
  refine fn_body h fun F as Pp hE hs => ?_
  obtain ⟨lk, es, st, nd, rfl, p⟩ := hs
  show WS K F _ [.val (mach T.a_Machine lk es st nd)] _
  exact es_ret (by walk_at "ev") p
end
section

theorem ok_Machine_leaks (T : Txt w K mg)  : FnOk P w K mg base CX0 1 T.a_Machine_leaks T.d_Machine_leaks ["self"] (spOf K (sp_Machine_leaks T.a_Machine)) := by
  refine T.F_Machine_leaks.ok sc_Machine_leaks (fun vs H Q E h => spOf_len len_Machine_leaks h) (fun cdv A outer s H vs Q E hr h => ?_)
  have hu64 := hr.units
  have hu65 : (A.deeper (envOfC "Machine.leaks" (defScope st_Machine_leaks) s.heap.objs.size T.a_Machine_leaks cdv)).units + 65 < cLine := by have := hr.un; omega
  refine ⟨_, (pss_one (ps_ret (pe_callTy (call_listK (K := K) rfl) (by rfl) T.n_list (by decide +kernel) (pa_cons (pe_fldK (K := K) rfl (pv 0) rfl) pa_nil)))), ?_⟩
  refine fn_body h fun F as Pp hE hs => ?_
  obtain ⟨lk, es, st, nd, rfl, p⟩ := hs
  show WS K F _ [.val (mach T.a_Machine lk es st nd)] _
  exact es_ret (by walk_at "ev") p
end
section

theorem ok_Machine_edges (T : Txt w K mg)  : FnOk P w K mg base CX0 1 T.a_Machine_edges T.d_Machine_edges ["self"] (spOf K (sp_Machine_edges T.a_Machine)) := by
  refine T.F_Machine_edges.ok sc_Machine_edges (fun vs H Q E h => spOf_len len_Machine_edges h) (fun cdv A outer s H vs Q E hr h => ?_)
  have hu64 := hr.units
  have hu65 : (A.deeper (envOfC "Machine.edges" (defScope st_Machine_edges) s.heap.objs.size T.a_Machine_edges cdv)).units + 65 < cLine := by have := hr.un; omega
  refine ⟨_, (pss_one (ps_ret (pe_callTy (call_listK (K := K) rfl) (by rfl) T.n_list (by decide +kernel) (pa_cons (pe_fldK (K := K) rfl (pv 0) rfl) pa_nil)))), ?_⟩
  refine fn_body h fun F as Pp hE hs => ?_
  obtain ⟨lk, es, st, nd, rfl, p⟩ := hs
  show WS K F _ [.val (mach T.a_Machine lk es st nd)] _
  exact es_ret (by walk_at "ev") p
end
section

theorem ok_Machine_check_edge (T : Txt w K mg) (G_is_number : FnOk P w K mg base CX0 1 T.a_is_number T.d_is_number ["value", "least", "most"] (spOf K sp_is_number)) : FnOk P w K mg base CX0 2 T.a_Machine_check_edge T.d_Machine_check_edge ["self", "at"] (spOf K (sp_Machine_check_edge T.a_Machine)) := by
  refine T.F_Machine_check_edge.ok sc_Machine_check_edge (fun vs H Q E h => spOf_len len_Machine_check_edge h) (fun cdv A outer s H vs Q E hr h => ?_)
  have hu64 := hr.units
  have hu65 : (A.deeper (envOfC "Machine.check_edge" (defScope st_Machine_check_edge) s.heap.objs.size T.a_Machine_check_edge cdv)).units + 65 < cLine := by have := hr.un; omega
  refine ⟨_, (pss_one (ps_if (pt_not (pt_val (pe_call G_is_number (hr.mono (by omega)) (by rfl) T.g_is_number T.F_is_number.kp T.b_is_number .nil pass0 (pa_cons (pv 1) (pa_cons pe_int (pa_cons (pe_op op_sub (pe_callB (call_lenK (K := K) rfl) (by rfl) T.n_len (by decide +kernel) (pa_cons (pe_fldK (K := K) rfl (pv 0) rfl) pa_nil)) pe_int) pa_nil))))))
  (pss_one ps_never)
  pss_nil)), ?_⟩
  refine fn_body h fun F as Pp hE hs => ?_
  obtain ⟨lk, es, st, nd, at_, rfl, a0, a1, p⟩ := hs
  show WS K F _ [.val (mach T.a_Machine lk es st nd), .val (.int at_)] _
  refine es_if (b := false) (et_not (b := true) (et_B (ev_call (ds := [.int at_, .int 0, .int ((es.length : Int) - 1)]) (by walk_at "ed") ⟨.int at_, 0, some ((es.length : Int) - 1), rfl, by simp [D.tg], by rw [isNum_in a0 (by omega)]⟩) rfl)) (.inr (.inl ⟨rfl, ws_next ?_⟩))
  exact p
end
section

theorem ok_Machine_check_node (T : Txt w K mg) (G_is_number : FnOk P w K mg base CX0 1 T.a_is_number T.d_is_number ["value", "least", "most"] (spOf K sp_is_number)) : FnOk P w K mg base CX0 2 T.a_Machine_check_node T.d_Machine_check_node ["self", "node"] (spOf K (sp_Machine_check_node T.a_Machine)) := by
  refine T.F_Machine_check_node.ok sc_Machine_check_node (fun vs H Q E h => spOf_len len_Machine_check_node h) (fun cdv A outer s H vs Q E hr h => ?_)
  have hu64 := hr.units
  have hu65 : (A.deeper (envOfC "Machine.check_node" (defScope st_Machine_check_node) s.heap.objs.size T.a_Machine_check_node cdv)).units + 65 < cLine := by have := hr.un; omega
  refine ⟨_, (pss_one (ps_if (pt_not (pt_val (pe_call G_is_number (hr.mono (by omega)) (by rfl) T.g_is_number T.F_is_number.kp T.b_is_number .nil pass0 (pa_cons (pv 1) (pa_cons pe_int (pa_cons (pe_op op_sub (pe_fldK (K := K) rfl (pv 0) rfl) pe_int) pa_nil))))))
  (pss_one ps_never)
  pss_nil)), ?_⟩
  refine fn_body h fun F as Pp hE hs => ?_
  obtain ⟨lk, es, st, nd, at_, rfl, h0, h1, p⟩ := hs
  show WS K F _ [.val (mach T.a_Machine lk es st nd), .val (.int at_)] _
  refine es_if (b := false) (et_not (b := true) (et_B (ev_call (ds := [.int at_, .int 0, .int (nd - 1)]) (by walk_at "ed") ⟨.int at_, 0, some (nd - 1), rfl, by simp [D.tg], by rw [isNum_in h0 (by omega)]⟩) rfl)) (.inr (.inl ⟨rfl, ws_next p⟩))
end
section

theorem ok_Machine_content (T : Txt w K mg)  : FnOk P w K mg base CX0 1 T.a_Machine_content T.d_Machine_content ["self"] (spOf K (sp_Machine_content T.a_Machine)) := by
  refine T.F_Machine_content.ok sc_Machine_content (fun vs H Q E h => spOf_len len_Machine_content h) (fun cdv A outer s H vs Q E hr h => ?_)
  have hu64 := hr.units
  have hu65 : (A.deeper (envOfC "Machine.content" (defScope st_Machine_content) s.heap.objs.size T.a_Machine_content cdv)).units + 65 < cLine := by have := hr.un; omega
  refine ⟨_, (pss_one (ps_ret (pe_tup (pa_cons (pe_fldK (K := K) rfl (pv 0) rfl) (pa_cons (pe_fldK (K := K) rfl (pv 0) rfl) (pa_cons (pe_fldK (K := K) rfl (pv 0) rfl) (pa_cons (pe_fldK (K := K) rfl (pv 0) rfl) pa_nil))))))), ?_⟩
  refine fn_body h fun F as Pp hE hs => ?_
  obtain ⟨lk, es, st, nd, rfl, p⟩ := hs
  show WS K F _ [.val (mach T.a_Machine lk es st nd)] _
  exact es_ret (v := contD lk es st nd) (ev_tup (by walk_at "ed") (by simp)) p
end
section

theorem ok_Machine_eq (T : Txt w K mg) (G_Machine_content : FnOk P w K mg base CX0 1 T.a_Machine_content T.d_Machine_content ["self"] (spOf K (sp_Machine_content T.a_Machine))) : FnOk P w K mg base CX0 2 T.a_Machine_eq T.d_Machine_eq ["self", "other"] (spOf K (sp_Machine_eq T.a_Machine)) := by
  refine T.F_Machine_eq.ok sc_Machine_eq (fun vs H Q E h => spOf_len len_Machine_eq h) (fun cdv A outer s H vs Q E hr h => ?_)
  have hu64 := hr.units
  have hu65 : (A.deeper (envOfC "Machine.__eq__" (defScope st_Machine_eq) s.heap.objs.size T.a_Machine_eq cdv)).units + 65 < cLine := by have := hr.un; omega
  refine ⟨_, (pss_one (ps_ret (pe_and (pe_callB (call_isiK (K := K) rfl) (by rfl) T.n_isinstance (by decide +kernel) (pa_cons (pv 1) (pa_cons (pe_glob (v := .ref T.a_Machine) (by rfl) T.c_Machine rfl) pa_nil))) (pe_one (pe_cmpR (op_eqK (K := K) rfl hu64) (pe_meth0 (pv 0) T.cl_Machine T.m_Machine_content G_Machine_content (hr.mono (by omega)) T.b_Machine_content .nil pass0) (pe_meth0 (pv 1) T.cl_Machine T.m_Machine_content G_Machine_content (hr.mono (by omega)) T.b_Machine_content .nil pass0) (nomark _)))))), ?_⟩
  refine fn_body h fun F as Pp hE hs => ?_
  obtain ⟨lk, es, st, nd, lk2, es2, st2, nd2, rfl, h1, h2, p⟩ := hs
  show WS K F _ [.val (mach T.a_Machine lk es st nd), .val (mach T.a_Machine lk2 es2 st2 nd2)] _
  have g : ∀ (lk : List Bool) (es : List D) (st nd : Int), sp_Machine_content T.a_Machine [.val (mach T.a_Machine lk es st nd)] (fun d => d = contD lk es st nd) X0 := fun lk es st nd => ⟨_, _, _, _, rfl, rfl⟩
  refine es_ret (ev_and (x := .bl true) (ev_cb (ed_cons (ev_var rfl) (ed_cons ev_raw ed_nil)) (cv_isiOwn (Txt.cl_Machine _) (Txt.ty_Machine _))) (and_T rfl (ev_op (ev_meth (ds := []) (ev_var rfl) (by walk_at "lk") ed_nil (g lk es st nd)) (ev_meth (ds := []) (ev_var rfl) (by walk_at "lk") ed_nil (g lk2 es2 st2 nd2)) (rv_eqD (ok_of 4 (okN_cont _ _ h1)) (ok_of 4 (okN_cont _ _ h2)))))) p
end
section

theorem ok_Machine_with_edges (T : Txt w K mg) (G_Machine_init : FnOk P w K mg base CX0 4 T.a_Machine_init T.d_Machine_init ["self", "leaks", "edges", "start", "nodes"] (spIOf K T.a_Machine sp_Machine_init)) : FnOk P w K mg base CX0 6 T.a_Machine_with_edges T.d_Machine_with_edges ["self", "edges"] (spOf K (sp_Machine_with_edges T.a_Machine)) := by
  refine T.F_Machine_with_edges.ok sc_Machine_with_edges (fun vs H Q E h => spOf_len len_Machine_with_edges h) (fun cdv A outer s H vs Q E hr h => ?_)
  have hu64 := hr.units
  have hu65 : (A.deeper (envOfC "Machine.with_edges" (defScope st_Machine_with_edges) s.heap.objs.size T.a_Machine_with_edges cdv)).units + 65 < cLine := by have := hr.un; omega
  refine ⟨_, (pss_one (ps_ret (pe_makeK T.mk_Machine G_Machine_init (hr.mono (by omega)) (by rfl) T.c_Machine T.kb_Machine_init_3_start_nodes pass0 (pa_cons (pe_fldK (K := K) rfl (pv 0) rfl) (pa_cons (pv 1) pa_nil)) (pk_cons (pe_fldK (K := K) rfl (pv 0) rfl) (pk_cons (pe_fldK (K := K) rfl (pv 0) rfl) pk_nil))))), ?_⟩
  refine fn_body h fun F as Pp hE hs => ?_
  obtain ⟨lk, es0, es, st, nd, rfl, l1, l2, h1, n1, n2, h4, h5, h6, p⟩ := hs
  show WS K F _ [.val (mach T.a_Machine lk es0 st nd), .val (.lst es)] _
  refine es_ret (ev_makeK (ds := [.lst (lk.map D.bl), .lst es]) (es := [.int st, .int nd]) (gD := fun us ws => atL us 0 ++ atL us 1 ++ atL ws 0 ++ atL ws 1) (by walk_at "ed") (by walk_at "ed") rfl rfl (fun G v vs zs ds es hv hz => ⟨_, rfl, DVs.append (DVs.append (DVs.append (dvs_atL hv 0) (dvs_atL hv 1)) (dvs_atL hz 0)) (dvs_atL hz 1)⟩) ⟨lk, es, st, .int nd, nd, nd, rfl, l1, l2, h1, .inl ⟨rfl, rfl, n1, n2⟩, h4, h5, h6, rfl⟩) p
end
section

theorem ok_Machine_barred (T : Txt w K mg) (G_Machine_check_edge : FnOk P w K mg base CX0 2 T.a_Machine_check_edge T.d_Machine_check_edge ["self", "at"] (spOf K (sp_Machine_check_edge T.a_Machine))) (G_Machine_with_edges : FnOk P w K mg base CX0 6 T.a_Machine_with_edges T.d_Machine_with_edges ["self", "edges"] (spOf K (sp_Machine_with_edges T.a_Machine))) : FnR P w K mg base CX0 7 T.a_Machine_barred (spStar K 1 (sp_Machine_barred T.a_Machine)) := by
  refine okStar (ps := ["self"]) (pv := "edges") T.F_Machine_barred sc_Machine_barred T.bs_Machine_barred (fun cdv A outer s H vs Q E hr h => ?_)
  have hu64 := hr.units
  have hu65 : (A.deeper (envOfC "Machine.barred" (defScope st_Machine_barred) s.heap.objs.size T.a_Machine_barred cdv)).units + 65 < cLine := by have := hr.un; omega
  refine ⟨_, (pss_cons (ps_for PassesOwn.never rfl (pi_tupK (K := K) rfl (pv 1)) (pg_name (i := 2) sc_Machine_barred.nd rfl (by first | exact Or.inl rfl | exact Or.inr rfl))
  (pss_one (ps_expr (pe_meth (pv 0) T.cl_Machine T.m_Machine_check_edge G_Machine_check_edge (hr.mono (by omega)) T.b_Machine_check_edge .nil pass0 (pa_cons (pv 2) pa_nil)))))
  (pss_one (ps_ret (pe_meth (pv 0) T.cl_Machine T.m_Machine_with_edges G_Machine_with_edges (hr.mono (by omega)) T.b_Machine_with_edges .nil pass0 (pa_cons (pe_lc (own := [("at", 2), ("edge", 3)]) (g := (gTup K 2 (gCons (gName 2) (gCons (gName 3) gNil)))) rfl sc_Machine_barred.nd (pi_enumK (K := K) rfl (pi_enum (by rfl) T.n_enumerate (pa_cons (pe_fldK (K := K) rfl (pv 0) rfl) pa_nil))) (blkOk_by (N := N_Machine_barred) (sc := defScope st_Machine_barred) (by decide +kernel)) (fun _ _ _ _ _ => (pg_tup (by rfl) (pgs_cons (pg_name (i := 2) sc_Machine_barred.nd rfl (by first | exact Or.inl rfl | exact Or.inr rfl)) (pgs_cons (pg_name (i := 3) sc_Machine_barred.nd rfl (by first | exact Or.inl rfl | exact Or.inr rfl)) pgs_nil)))) (fun _ _ _ _ _ => (pts_one (pt_cmpR (op_ninK (K := K) rfl hu65) (pv 2) (pv 1) (by rfl)))) (fun _ _ _ _ _ => (pv 3))) pa_nil))))), ?_⟩
  refine fn_body h fun F as Pp hE hs => ?_
  obtain ⟨lk, es, st, nd, ats, rfl, l1, l2, h1, n1, n2, h4, h5, h6, ha, p⟩ := hs
  show WS K F _ [.val (mach T.a_Machine lk es st nd), .val (.tup (ats.map D.int)), .none, .none] _
  refine ws_seq (es_for (ts := [2]) (ei_tup (ev_var rfl) rfl) (fun i δ' => ∃ z, δ' = [.val (mach T.a_Machine lk es st nd), .val (.tup (ats.map D.int)), z, .none]) ⟨_, rfl⟩ (fun i d δ' hd hi => ?_) (fun δ' hi => ?_))
  · obtain ⟨z, rfl⟩ := hi
    obtain ⟨a, ga, rfl⟩ : ∃ a, ats[i]? = some a ∧ d = .int a := by
      rw [List.getElem?_map] at hd
      cases q : ats[i]? with
      | none => rw [q] at hd; cases hd
      | some a => rw [q] at hd; exact ⟨a, rfl, (Option.some.inj hd).symm⟩
    have := ha a (List.mem_of_getElem? ga)
    refine wg_name ?_
    refine es_drop (v := .non) (ev_meth (ds := [.int a]) (ev_var rfl) (by walk_at "lk") (by walk_at "ed") ⟨lk, es, st, nd, a, rfl, this.1, this.2, rfl⟩) ?_
    exact ⟨_, rfl⟩
  · obtain ⟨z, rfl⟩ := hi
    show WS K F _ [.val (mach T.a_Machine lk es st nd), .val (.tup (ats.map D.int)), z, .none] _
    refine es_ret (ev_meth (ds := [.lst (keepD es ats)]) (ev_var rfl) (by walk_at "lk") (ed_cons ?lc ed_nil) ⟨lk, es, keepD es ats, st, nd, rfl, l1, l2, Nat.le_trans (keep_len es ats) h1, n1, n2, fun e he => h4 e (keep_sub he), h5, h6, rfl⟩) p
    case lc =>
      apply ev_filter (α := D × Nat) (xs := es.zipIdx) (enc := fun p => D.tup [.int (p.2 : Int), p.1]) (f := fun p => p.1) (c := fun p => !decide ((p.2 : Int) ∈ ats)) (ts := [2, 3])
      · exact ei_enum (by walk_at "ed")
      · rfl
      · rw [List.length_zipIdx]; omega
      · intro x
        walk_at "eg"
      rotate_left 2
      · decide
      · intro x hx
        exact et_test (ev_op (ev_var rfl) (ev_var rfl) rv_ninIT) rfl
      · intro x hx hc
        exact ev_var rfl
end
section

theorem ok_Machine_with_edge (T : Txt w K mg) (G_Machine_with_edges : FnOk P w K mg base CX0 6 T.a_Machine_with_edges T.d_Machine_with_edges ["self", "edges"] (spOf K (sp_Machine_with_edges T.a_Machine))) : FnOk P w K mg base CX0 7 T.a_Machine_with_edge T.d_Machine_with_edge ["self", "edge"] (spOf K (sp_Machine_with_edge T.a_Machine)) := by
  refine T.F_Machine_with_edge.ok sc_Machine_with_edge (fun vs H Q E h => spOf_len len_Machine_with_edge h) (fun cdv A outer s H vs Q E hr h => ?_)
  have hu64 := hr.units
  have hu65 : (A.deeper (envOfC "Machine.with_edge" (defScope st_Machine_with_edge) s.heap.objs.size T.a_Machine_with_edge cdv)).units + 65 < cLine := by have := hr.un; omega
  refine ⟨_, (pss_one (ps_ret (pe_meth (pv 0) T.cl_Machine T.m_Machine_with_edges G_Machine_with_edges (hr.mono (by omega)) T.b_Machine_with_edges .nil pass0 (pa_cons (pe_lst (pa_starK (K := K) rfl (pe_fldK (K := K) rfl (pv 0) rfl) (pa_cons (pv 1) pa_nil))) pa_nil)))), ?_⟩
  refine fn_body h fun F as Pp hE hs => ?_
  obtain ⟨lk, es, st, nd, e, rfl, l1, l2, h1, n1, n2, h4, he, h5, h6, p⟩ := hs
  show WS K F _ [.val (mach T.a_Machine lk es st nd), .val e] _
  refine es_ret (ev_meth (ds := [.lst (es ++ [e])]) (ev_var rfl) (by walk_at "lk") (ed_cons (ev_lst (ed_starL (es := es) (ds := [e]) (by walk_at "ev") (by walk_at "ed")) ?_) ed_nil) ⟨lk, es, es ++ [e], st, nd, rfl, l1, l2, by simp; omega, n1, n2, fun x hx => ?_, h5, h6, rfl⟩) p
  · rw [List.length_append]; simp; omega
  · rcases List.mem_append.mp hx with hx | hx
    · exact h4 x hx
    · rw [List.mem_singleton.mp hx]; exact he
end
section

theorem ok_Machine_begun (T : Txt w K mg) (G_Machine_init : FnOk P w K mg base CX0 4 T.a_Machine_init T.d_Machine_init ["self", "leaks", "edges", "start", "nodes"] (spIOf K T.a_Machine sp_Machine_init)) (G_Machine_check_node : FnOk P w K mg base CX0 2 T.a_Machine_check_node T.d_Machine_check_node ["self", "node"] (spOf K (sp_Machine_check_node T.a_Machine))) : FnOk P w K mg base CX0 6 T.a_Machine_begun T.d_Machine_begun ["self", "start"] (spOf K (sp_Machine_begun T.a_Machine)) := by
  refine T.F_Machine_begun.ok sc_Machine_begun (fun vs H Q E h => spOf_len len_Machine_begun h) (fun cdv A outer s H vs Q E hr h => ?_)
  have hu64 := hr.units
  have hu65 : (A.deeper (envOfC "Machine.begun" (defScope st_Machine_begun) s.heap.objs.size T.a_Machine_begun cdv)).units + 65 < cLine := by have := hr.un; omega
  refine ⟨_, (pss_cons (ps_expr (pe_meth (pv 0) T.cl_Machine T.m_Machine_check_node G_Machine_check_node (hr.mono (by omega)) T.b_Machine_check_node .nil pass0 (pa_cons (pv 1) pa_nil)))
  (pss_one (ps_ret (pe_makeK T.mk_Machine G_Machine_init (hr.mono (by omega)) (by rfl) T.c_Machine T.kb_Machine_init_3_start_nodes pass0 (pa_cons (pe_fldK (K := K) rfl (pv 0) rfl) (pa_cons (pe_fldK (K := K) rfl (pv 0) rfl) pa_nil)) (pk_cons (pv 1) (pk_cons (pe_fldK (K := K) rfl (pv 0) rfl) pk_nil)))))), ?_⟩
  refine fn_body h fun F as Pp hE hs => ?_
  obtain ⟨lk, es, st0, st, nd, rfl, l1, l2, h1, n1, n2, h4, h5, h6, p⟩ := hs
  show WS K F _ [.val (mach T.a_Machine lk es st0 nd), .val (.int st)] _
  refine ws_seq (es_drop (v := .non) (ev_meth (ds := [.int st]) (ev_var rfl) (by walk_at "lk") (by walk_at "ed") ⟨lk, es, st0, nd, st, rfl, h5, h6, rfl⟩) ?_)
  refine es_ret (ev_makeK (ds := [.lst (lk.map D.bl), .lst es]) (es := [.int st, .int nd]) (gD := fun us ws => atL us 0 ++ atL us 1 ++ atL ws 0 ++ atL ws 1) (by walk_at "ed") (by walk_at "ed") rfl rfl (fun G v vs zs ds es hv hz => ⟨_, rfl, DVs.append (DVs.append (DVs.append (dvs_atL hv 0) (dvs_atL hv 1)) (dvs_atL hz 0)) (dvs_atL hz 1)⟩) ⟨lk, es, st, .int nd, nd, nd, rfl, l1, l2, h1, .inl ⟨rfl, rfl, n1, n2⟩, h4, h5, h6, rfl⟩) p
end
section

theorem ok_law_bag (T : Txt w K mg) : FnOk P w K mg base CX0 1 T.a_law_bag T.d_law_bag ["_law_script"] (spB_law_bag K) := by
  refine T.F_law_bag.ok sc_law_bag (fun vs H Q E h => ?_) (fun cdv A outer s H vs Q E hr h => ?_)
  · obtain ⟨a, ns, rfl, _⟩ := h
    rfl
  obtain ⟨a, ns, rfl, hS, hlen, q⟩ := h
  refine ⟨_, (pss_cons (ps_set (i := 1) sc_law_bag.nd rfl (by first | exact Or.inl rfl | exact Or.inr rfl) pe_int)
  (pss_cons (ps_for PassesOwn.never rfl (pi_listK (K := K) rfl (pe_slice (sl_K (K := K) rfl) (pv 0) po_none (po_some pe_int))) (pg_name (i := 2) sc_law_bag.nd rfl (by first | exact Or.inl rfl | exact Or.inr rfl))
  (pss_one (ps_set (i := 1) sc_law_bag.nd rfl (by first | exact Or.inl rfl | exact Or.inr rfl) (pe_op op_mod (pe_callTy call_intA (by rfl) T.n_int (by decide +kernel) (pa_cons (pe_op (op_addK (K := K) rfl) (pe_op (op_addK (K := K) rfl) (pe_op (op_mulK (K := K) rfl) (pv 1) pe_int) (pe_op op_mod (pe_callTy call_intA (by rfl) T.n_int (by decide +kernel) (pa_cons (pv 2) pa_nil)) pe_int)) pe_int) pa_nil)) pe_int))))
  (pss_one (ps_ret (pe_lst (pa_cons (pe_lc (own := [("_law_cell", 2)]) (g := (gName 2)) (tt := tYes) rfl sc_law_bag.nd (pi_listK (K := K) rfl (pe_slice (sl_K (K := K) rfl) (pv 0) po_none (po_some pe_int))) (blkOk_by (N := N_law_bag) (sc := defScope st_law_bag) (by decide +kernel)) (fun _ _ _ _ _ => (pg_name (i := 2) sc_law_bag.nd rfl (by first | exact Or.inl rfl | exact Or.inr rfl))) (fun _ _ _ _ _ => pts_nil) (fun _ _ _ _ _ => (pe_callTy call_intA (by rfl) T.n_int (by decide +kernel) (pa_cons (pv 2) pa_nil)))) (pa_cons pe_int (pa_cons pe_int (pa_cons (pv 1) (pa_cons pe_int pa_nil)))))))))), ?_⟩
  -- the seed
  refine ⟨.ref a, rfl, ⟨63, rfl, .inl ⟨a, ns.map V.int, rfl, hS, fun p np => ?_⟩⟩⟩
  generalize hcut : cutV (ns.map V.int) none (some 63) = cs
  obtain ⟨ms, rfl⟩ : ∃ ms : List Int, cs = ms.map V.int := by
    refine ⟨((ns.drop (HT.sIx ns.length 0 none)).take (HT.sIx ns.length ns.length (some 63) - HT.sIx ns.length 0 none)), ?_⟩
    rw [← hcut]
    unfold cutV
    rw [List.length_map, List.map_take, List.map_drop]
  have hml : ms.length ≤ 63 := by
    have h1 := cutV_length (ns.map V.int) none (some 63)
    rw [hcut, List.length_map, List.length_map] at h1
    omega
  have s1 : Same H (upd H p (.lst (ms.map V.int))) := fun b o e => by
    rw [upd_ne (ne_of_none e np)]
    exact e
  refine ⟨p, rfl, ⟨_, sqL upd_same⟩, ?_⟩
  refine for_list (xs := ms.map V.int) (fun i σ H' => H' = upd H p (.lst (ms.map V.int)) ∧ ∃ y2 z, σ = [some (.ref a), some (.int z), y2] ∧ 0 ≤ z ∧ z < 2147483629) ⟨rfl, none, 4913, rfl, by decide, by decide⟩ (fun i σ H' hi hp => ?_) (fun i x σ H' hx hp => ?_) (fun σ H' hp => ?_)
  · rw [hp.1]
    exact sqL upd_same
  · obtain ⟨rfl, y2, z, rfl, h0, h1⟩ := hp
    obtain ⟨c, rfl⟩ : ∃ c, x = .int c := by
      rw [List.getElem?_map] at hx
      cases e : ms[i]? with
      | none => rw [e] at hx; cases hx
      | some c =>
        rw [e] at hx
        exact ⟨c, (Option.some.inj hx).symm⟩
    refine ⟨.int z, rfl, .inl ⟨z, 50021, rfl, rfl, .inr ⟨by decide, by decide⟩, .int c, rfl, .inl ⟨c, rfl, c, 2147483563, rfl, rfl, (show (0 : Int) < 2147483563 by decide), ?_⟩⟩⟩
    refine .inl (.inl ⟨_, _, rfl, rfl, .inl (.inl ⟨_, _, rfl, rfl, .inl ⟨_, rfl, _, _, rfl, rfl, (show (0 : Int) < 2147483629 by decide), ?_⟩⟩)⟩)
    refine ⟨rfl, _, _, rfl, Int.emod_nonneg _ (by decide), Int.emod_lt_of_pos _ (by decide)⟩
  · obtain ⟨rfl, y2, z, rfl, h0, h1⟩ := hp
    -- the cells
    refine ⟨.ref a, rfl, ⟨63, rfl, .inl ⟨a, ns.map V.int, rfl, s1.seq hS, fun p2 np2 => ?_⟩⟩⟩
    rw [hcut]
    have s2 : Same H (upd (upd H p (.lst (ms.map V.int))) p2 (.lst (ms.map V.int))) := fun b o e => by
      rw [upd_ne (ne_of_none (s1 _ _ e) np2)]
      exact s1 _ _ e
    refine ⟨p2, rfl, ⟨_, sqL upd_same⟩, fun D nD => ?_⟩
    have s3 : ∀ xs, Same H (upd (upd (upd H p (.lst (ms.map V.int))) p2 (.lst (ms.map V.int))) D (.lst xs)) := fun xs b o e => by
      rw [upd_ne (ne_of_none (s2 _ _ e) nD)]
      exact s2 _ _ e
    have nD2 : p2 ≠ D := fun e => by
      rw [← e, upd_same] at nD
      cases nD
    have nDH : H D = none := by
      cases e : H D with
      | none => rfl
      | some o =>
        rw [s2 _ _ e] at nD
        cases nD
    refine lc_list (xs := ms.map V.int) (fun i H' => H' = upd (upd (upd H p (.lst (ms.map V.int))) p2 (.lst (ms.map V.int))) D (.lst ((ms.take i).map V.int))) rfl (fun i H' hi hp => ?_) (fun i x H' hx hp => ?_) (fun H' hp => ?_)
    · rw [hp]
      refine sqL ?_
      rw [upd_ne nD2]
      exact upd_same
    · subst hp
      have hx' := hx
      rw [List.getElem?_map] at hx
      cases e : ms[i]? with
      | none => rw [e] at hx; cases hx
      | some c =>
        rw [e] at hx
        cases hx
        refine ⟨rfl, ?_⟩
        refine ⟨.int c, rfl, .inl ⟨c, rfl, _, upd_same, ?_, ?_⟩⟩
        · rw [List.length_map, List.length_take]
          exact small1000 (by omega)
        · rw [upd_upd, List.take_add_one, e, List.map_append]
          rfl
    · subst hp
      rw [List.length_map, List.take_length]
      refine ⟨.int z, rfl, by show 5 ≤ sizeLine; decide, fun b nb => ?_⟩
      have nbD : D ≠ b := fun e => by
        rw [← e, upd_same] at nb
        cases nb
      have nbH : H b = none := by
        cases e : H b with
        | none => rfl
        | some o =>
          rw [s3 _ _ _ e] at nb
          cases nb
      refine q _ b D (fun x o e => ?_) nbH nDH ⟨ms, 0, 0, z, 0, nbD.symm, upd_same, ?_, by decide, by decide, h0, h1, by decide⟩
      · rw [upd_ne (ne_of_none e nbH)]
        exact s3 _ _ _ e
      · rw [upd_ne nbD]
        exact upd_same

end
section

theorem ok_law_pull (T : Txt w K mg) : FnOk P w K mg base CX0 1 T.a_law_pull T.d_law_pull ["_law_bag_here", "_law_many"] (spOf K sp_law_pull) := by
  refine T.F_law_pull.ok sc_law_pull (fun vs H Q E h => spOf_len len_law_pull h) (fun cdv A outer s H vs Q E hr h => ?_)
  have hu64 := hr.units
  obtain ⟨F, as, Pd, rfl, k, eE, av, ⟨n, rfl, hn, hn2, hp⟩, q⟩ := h
  cases av with
  | cons a1 av =>
  cases av with
  | cons a2 av =>
  cases av
  obtain ⟨b, hb, rfl⟩ := a1
  cases DV.to_int a2
  obtain ⟨cells, i, r, z, d, hbc, eb, ec, hi, hr0, hz, hz1, hd⟩ := k.bag b hb
  refine ⟨_, (pss_cons (ps_asg (pe_op (op_addK (K := K) rfl) (pe_ix (ix_K (K := K) rfl) (pv 0) pe_int (fun _ _ => rfl)) pe_int) (pg_sub (pv 0) pe_int set_list))
  (Evl.pss_cut (ps_if (PW.pt (pw_and (pt_cmpR (op_eqK (K := K) rfl hu64) (pe_ix (ix_K (K := K) rfl) (pv 0) pe_int (fun _ _ => rfl)) pe_int (nomark _)) (pw_and1 (pt_cmpR op_lt (pe_ix (ix_K (K := K) rfl) (pv 0) pe_int (fun _ _ => rfl)) (pe_callB (call_lenK (K := K) rfl) (by rfl) T.n_len (by decide +kernel) (pa_cons (pe_ix (ix_K (K := K) rfl) (pv 0) pe_int (fun _ _ => rfl)) pa_nil)) (nomark _)))))
  (pss_cons (ps_set (i := 2) sc_law_pull.nd rfl (by first | exact Or.inl rfl | exact Or.inr rfl) (pe_ix (ix_K (K := K) rfl) (pe_ix (ix_K (K := K) rfl) (pv 0) pe_int (fun _ _ => rfl)) (pe_ix (ix_K (K := K) rfl) (pv 0) pe_int (fun _ _ => rfl)) (fun _ _ => rfl)))
  (pss_cons (ps_asg (pe_op (op_addK (K := K) rfl) (pe_ix (ix_K (K := K) rfl) (pv 0) pe_int (fun _ _ => rfl)) pe_int) (pg_sub (pv 0) pe_int set_list))
  (pss_one (ps_if (pt_cmpR op_ge (pv 2) (pe_op op_pow pe_int pe_int) (nomark _))
  (pss_one (ps_asg (pv 2) (pg_sub (pv 0) pe_int set_list)))
  (pss_one (ps_asg (pe_op op_mod (pe_callTy call_intA (by rfl) T.n_int (by decide +kernel) (pa_cons (pe_op (op_addK (K := K) rfl) (pe_op (op_addK (K := K) rfl) (pe_op (op_mulK (K := K) rfl) (pe_ix (ix_K (K := K) rfl) (pv 0) pe_int (fun _ _ => rfl)) pe_int) (pe_op (op_mulK (K := K) rfl) (pe_op op_mod (pe_callTy call_intA (by rfl) T.n_int (by decide +kernel) (pa_cons (pv 2) pa_nil)) pe_int) pe_int)) pe_int) pa_nil)) pe_int) (pg_sub (pv 0) pe_int set_list)))))))
  pss_nil)
  (pss_cons (ps_if (pt_cmpR op_gt (pe_ix (ix_K (K := K) rfl) (pv 0) pe_int (fun _ _ => rfl)) pe_int (nomark _))
  (pss_cons (ps_set (i := 3) sc_law_pull.nd rfl (by first | exact Or.inl rfl | exact Or.inr rfl) (pe_op op_mod (pe_callTy call_intA (by rfl) T.n_int (by decide +kernel) (pa_cons (pe_ix (ix_K (K := K) rfl) (pv 0) pe_int (fun _ _ => rfl)) pa_nil)) (pv 1)))
  (pss_cons (ps_asg (pe_op op_fdivW (pe_callTy call_intA (by rfl) T.n_int (by decide +kernel) (pa_cons (pe_ix (ix_K (K := K) rfl) (pv 0) pe_int (fun _ _ => rfl)) pa_nil)) (pv 1)) (pg_sub (pv 0) pe_int set_list))
  (pss_one (ps_ret (pv 3)))))
  pss_nil)
  (pss_cons (ps_set (i := 4) sc_law_pull.nd rfl (by first | exact Or.inl rfl | exact Or.inr rfl) (pe_op op_mod (pe_callTy call_intA (by rfl) T.n_int (by decide +kernel) (pa_cons (pe_op (op_addK (K := K) rfl) (pe_op (op_mulK (K := K) rfl) (pe_ix (ix_K (K := K) rfl) (pv 0) pe_int (fun _ _ => rfl)) (pe_ix (ix_K (K := K) rfl) (pv 0) pe_int (fun _ _ => rfl))) (pe_op (op_mulK (K := K) rfl) (pe_ix (ix_K (K := K) rfl) (pv 0) pe_int (fun _ _ => rfl)) pe_int)) pa_nil)) pe_int))
  (pss_cons (ps_asg (pe_op op_mod (pe_callTy call_intA (by rfl) T.n_int (by decide +kernel) (pa_cons (pe_op (op_addK (K := K) rfl) (pe_op (op_addK (K := K) rfl) (pe_op (op_mulK (K := K) rfl) (pv 4) pe_int) (pe_op (op_mulK (K := K) rfl) (pe_ix (ix_K (K := K) rfl) (pv 0) pe_int (fun _ _ => rfl)) pe_int)) pe_int) pa_nil)) pe_int) (pg_sub (pv 0) pe_int set_list))
  (pss_one (ps_ret (pe_op op_mod (pe_callTy call_intA (by rfl) T.n_int (by decide +kernel) (pa_cons (pe_op op_fdivW (pe_ix (ix_K (K := K) rfl) (pv 0) pe_int (fun _ _ => rfl)) pe_int) pa_nil)) (pv 1))))))))), ?_⟩
  generalize hH : F.H0 = H at *
  have done : ∀ i r z d v, 0 ≤ i → 0 ≤ r → 0 ≤ z → z < 2147483629 → 0 ≤ d → 0 ≤ v → v < n → Q (.int v) (upd H b (bagL F.c i r z d)) := fun i r z d v hi hr hz hz1 hd hv hv1 => by
    refine q (.int v) _ (.int v) (hp v hv hv1) (fun x o nx e => ?_) (fun b' hb' => ?_) (.int v)
    · rw [upd_ne (fun z => nx (by rw [z, hb]))]
      exact e
    · rw [hb] at hb'
      cases hb'
      exact ⟨cells, i, r, z, d, hbc, upd_same, by rw [upd_ne hbc.symm]; exact ec, hi, hr, hz, hz1, hd⟩
  -- one more draw
  refine ⟨.ref b, rfl, .inl ⟨b, _, 4, .int d, rfl, rfl, sqL eb, rfl, ?_⟩⟩
  refine .inl (.inl ⟨d, 1, rfl, rfl, .ref b, rfl, b, _, 4, 4, rfl, rfl, eb, rfl, ?_⟩)
  -- a new cell
  refine ⟨fun σ H' => ∃ y i r z d, σ = [some (.ref b), some (.int n), y, none, none] ∧ H' = upd H b (bagL F.c i r z d) ∧ 0 ≤ i ∧ 0 ≤ r ∧ 0 ≤ z ∧ z < 2147483629 ∧ 0 ≤ d, ?_, fun σ H' hw => ?_⟩
  · refine ⟨.ref b, rfl, .inl ⟨b, _, 2, .int r, rfl, rfl, sqL upd_same, rfl, ?_⟩⟩
    refine .inl ⟨rfl, _, rfl, ?_⟩
    have e0 : decide (V.int r = V.int 0) = decide (r = 0) := by simp
    rw [e0]
    refine ite2 (fun h0 => ?_) (fun h0 => ?_)
    · have h0 : r = 0 := of_decide_eq_true h0
      subst h0
      refine ⟨.ref b, rfl, .inl ⟨b, _, 1, .int i, rfl, rfl, sqL upd_same, rfl, ?_⟩⟩
      refine ⟨.ref b, rfl, .inl ⟨b, _, 0, .ref F.c, rfl, rfl, sqL upd_same, rfl, ?_⟩⟩
      refine ⟨_, (cells.map V.int).length, rfl, .inl ⟨_, sqL (by rw [upd_ne hbc.symm]; exact ec), rfl⟩, i, _, rfl, rfl, _, rfl, ite2 (fun h1 => ?_) (fun h1 => ?_)⟩
      · have h1 : i < (cells.map V.int).length := of_decide_eq_true h1
        rw [List.length_map] at h1
        have hlt : i.toNat < cells.length := by omega
        have hget : atI (cells.map V.int) i = some (.int cells[i.toNat]) := by
          rw [atI_of hi (by rw [List.length_map]; exact h1)]
          simp
        generalize cells[i.toNat] = c at hget
        refine ⟨.ref b, rfl, .inl ⟨b, _, 0, .ref F.c, rfl, rfl, sqL upd_same, rfl, ?_⟩⟩
        refine ⟨.ref b, rfl, .inl ⟨b, _, 1, .int i, rfl, rfl, sqL upd_same, rfl, ?_⟩⟩
        refine .inl ⟨F.c, _, i, _, rfl, rfl, sqL (by rw [upd_ne hbc.symm]; exact ec), hget, ?_⟩
        -- bag[1] = bag[1] + 1
        refine ⟨.ref b, rfl, .inl ⟨b, _, 1, .int i, rfl, rfl, sqL upd_same, rfl, ?_⟩⟩
        refine .inl (.inl ⟨i, 1, rfl, rfl, .ref b, rfl, b, _, 1, 1, rfl, rfl, upd_same, rfl, ?_⟩)
        rw [upd_upd]
        -- if cell >= 10 ** 18
        refine ⟨.int c, rfl, 10, 18, rfl, rfl, ⟨by decide, by decide, by decide⟩, c, _, rfl, rfl, _, rfl, ite2 (fun h2 => ?_) (fun h2 => ?_)⟩
        · have h2 : (10 : Int) ^ (18 : Int).toNat ≤ c := of_decide_eq_true h2
          have h3 : (0 : Int) ≤ c := Int.le_trans (by decide) h2
          refine ⟨.int c, rfl, .ref b, rfl, b, _, 2, 2, rfl, rfl, upd_same, rfl, ?_⟩
          rw [upd_upd]
          exact ⟨some (.int c), i + 1, c, z, d + 1, rfl, rfl, by omega, h3, hz, hz1, by omega⟩
        · refine ⟨.ref b, rfl, .inl ⟨b, _, 3, .int z, rfl, rfl, sqL upd_same, rfl, ?_⟩⟩
          refine .inl ⟨z, 40013, rfl, rfl, .inr ⟨by decide, by decide⟩, .int c, rfl, .inl ⟨c, rfl, c, 2147483579, rfl, rfl, (show (0 : Int) < 2147483579 by decide), ?_⟩⟩
          refine .inl ⟨_, 977, rfl, rfl, .inr ⟨by decide, by decide⟩, .inl (.inl ⟨_, _, rfl, rfl, .inl (.inl ⟨_, _, rfl, rfl, .inl ⟨_, rfl, _, _, rfl, rfl, (show (0 : Int) < 2147483629 by decide), ?_⟩⟩)⟩)⟩
          refine ⟨.ref b, rfl, b, _, 3, 3, rfl, rfl, upd_same, rfl, ?_⟩
          rw [upd_upd]
          exact ⟨some (.int c), i + 1, 0, _, d + 1, rfl, rfl, by omega, by decide, Int.emod_nonneg _ (by decide), Int.emod_lt_of_pos _ (by decide), by omega⟩
      · exact ⟨none, i, 0, z, d + 1, rfl, rfl, hi, by decide, hz, hz1, by omega⟩
    · refine iteF ?_
      exact ⟨none, i, r, z, d + 1, rfl, rfl, hi, hr0, hz, hz1, by omega⟩
  · obtain ⟨y, i, r, z, d, rfl, rfl, hi, hr0, hz, hz1, hd⟩ := hw
    refine ⟨.ref b, rfl, .inl ⟨b, _, 2, .int r, rfl, rfl, sqL upd_same, rfl, r, 0, rfl, rfl, _, rfl, ite2 (fun h0 => ?_) (fun h0 => ?_)⟩⟩
    · have h0 : (0 : Int) < r := of_decide_eq_true h0
      refine ⟨.ref b, rfl, .inl ⟨b, _, 2, .int r, rfl, rfl, sqL upd_same, rfl, .inl ⟨r, rfl, .int n, rfl, r, n, rfl, rfl, hn, ?_⟩⟩⟩
      refine ⟨.ref b, rfl, .inl ⟨b, _, 2, .int r, rfl, rfl, sqL upd_same, rfl, .inl ⟨r, rfl, .int n, rfl, r, n, rfl, rfl, wide_div hn (b := 62) (by omega) (by decide) (by decide), ?_⟩⟩⟩
      refine ⟨.ref b, rfl, b, _, 2, 2, rfl, rfl, upd_same, rfl, ?_⟩
      rw [upd_upd]
      exact ⟨_, rfl, done i (r / n) z d (r % n) hi (Int.ediv_nonneg hr0 (by omega)) hz hz1 hd (Int.emod_nonneg _ (by omega)) (Int.emod_lt_of_pos _ hn)⟩
    · refine ⟨.ref b, rfl, .inl ⟨b, _, 3, .int z, rfl, rfl, sqL upd_same, rfl, ?_⟩⟩
      refine ⟨.ref b, rfl, .inl ⟨b, _, 3, .int z, rfl, rfl, sqL upd_same, rfl, ?_⟩⟩
      refine .inl ⟨z, z, rfl, rfl, .inl ⟨by omega, by omega⟩, ?_⟩
      refine ⟨.ref b, rfl, .inl ⟨b, _, 4, .int d, rfl, rfl, sqL upd_same, rfl, ?_⟩⟩
      refine .inl ⟨d, 7001, rfl, rfl, .inr ⟨by decide, by decide⟩, .inl (.inl ⟨_, _, rfl, rfl, .inl ⟨_, rfl, _, _, rfl, rfl, (show (0 : Int) < 2147483587 by decide), ?_⟩⟩)⟩
      have hsq0 : 0 ≤ (z * z + d * 7001) % 2147483587 := Int.emod_nonneg _ (by decide)
      have hsq1 : (z * z + d * 7001) % 2147483587 < 2147483587 := Int.emod_lt_of_pos _ (by decide)
      refine ⟨_, rfl, .inl ⟨_, 30011, rfl, rfl, .inr ⟨by decide, by decide⟩, ?_⟩⟩
      --⟨_, rfl, .inl ⟨sq, 30011, rfl, rfl, .inr ⟨by decide, by decide⟩, ?_⟩⟩
      refine ⟨.ref b, rfl, .inl ⟨b, _, 3, .int z, rfl, rfl, sqL upd_same, rfl, ?_⟩⟩
      refine .inl ⟨z, 613, rfl, rfl, .inr ⟨by decide, by decide⟩, .inl (.inl ⟨_, _, rfl, rfl, .inl (.inl ⟨_, _, rfl, rfl, .inl ⟨_, rfl, _, _, rfl, rfl, (show (0 : Int) < 2147483629 by decide), ?_⟩⟩)⟩)⟩
      have hz20 : 0 ≤ ((z * z + d * 7001) % 2147483587 * 30011 + z * 613 + 5) % 2147483629 := Int.emod_nonneg _ (by decide)
      have hz21 : ((z * z + d * 7001) % 2147483587 * 30011 + z * 613 + 5) % 2147483629 < 2147483629 := Int.emod_lt_of_pos _ (by decide)
      refine ⟨.ref b, rfl, b, _, 3, 3, rfl, rfl, upd_same, rfl, ?_⟩
      rw [upd_upd]
      refine ⟨.ref b, rfl, .inl ⟨b, _, 3, _, rfl, rfl, sqL upd_same, rfl, ?_⟩⟩
      refine ⟨_, 97, rfl, rfl, wide_div (by decide) (b := 62) (by decide) (by decide) (by decide), .inl ⟨_, rfl, .int n, rfl, _, n, rfl, rfl, hn, ?_⟩⟩
      exact done i r _ d _ hi hr0 hz20 hz21 hd (Int.emod_nonneg _ (by omega)) (Int.emod_lt_of_pos _ hn)

end
section

theorem ok_law_pick (T : Txt w K mg) (G_law_pull : FnOk P w K mg base CX0 1 T.a_law_pull T.d_law_pull ["_law_bag_here", "_law_many"] (spOf K sp_law_pull)) : FnOk P w K mg base CX0 2 T.a_law_pick T.d_law_pick ["_law_bag_here", "_law_row"] (spOf K sp_law_pick) := by
  refine T.F_law_pick.ok sc_law_pick (fun vs H Q E h => spOf_len len_law_pick h) (fun cdv A outer s H vs Q E hr h => ?_)
  have hu64 := hr.units
  have hu65 : (A.deeper (envOfC "_law_pick" (defScope st_law_pick) s.heap.objs.size T.a_law_pick cdv)).units + 65 < cLine := by have := hr.un; omega
  refine ⟨_, (pss_one (ps_ret (pe_ix (ix_K (K := K) rfl) (pv 1) (pe_call G_law_pull (hr.mono (by omega)) (by rfl) T.g_law_pull T.F_law_pull.kp T.b_law_pull .nil pass0 (pa_cons (pv 0) (pa_cons (pe_callB (call_lenK (K := K) rfl) (by rfl) T.n_len (by decide +kernel) (pa_cons (pv 1) pa_nil)) pa_nil))) (fun _ _ => rfl)))), ?_⟩
  refine fn_body h fun F as Pp hE hs => ?_
  rcases hs with ⟨ds, rfl, h0, h1, p⟩ | ⟨s, rfl, h0, h1, p⟩
  · show WS K F _ [.bag, .val (.lst ds)] _
    walk_at "rd"
    refine ⟨_, rfl, by omega, by omega, fun k k0 k1 => ?_⟩
    have hk : k.toNat < ds.length := by omega
    refine rd_ixL (atI_of k0 (by omega)) (p _ (List.getElem_mem _))
  · show WS K F _ [.bag, .val (.str s)] _
    walk_at "rd"
    refine rc_lenS h1 ?_
    walk_at "rd"
    have hl : s.length = s.cps.toList.length := rfl
    refine ⟨_, rfl, by omega, by omega, fun k k0 k1 => ?_⟩
    have hk : k.toNat < s.cps.toList.length := by omega
    refine rd_ixS h1 (atI_of k0 (by omega)) (p _ (List.getElem_mem _))
end
section


local macro_rules | `(tactic| walk_at "dm") => `(tactic| first | exact rfl | exact zipSame _ _)
theorem law_same_zero (T : Txt w K mg) : FnOk P w K mg base CX0 1 T.a_law_same T.d_law_same ["_law_found", "_law_due"] (spOf K (sp_law_same 0)) := by
  refine T.F_law_same.ok sc_law_same (fun vs H Q E h => spOf_len (len_law_same 0) h) (fun cdv A outer s H vs Q E hr h => ?_)
  have hu64 := hr.units
  refine ⟨_, (pss_cons (ps_if (pt_val (pe_callB (call_isiK (K := K) rfl) (by rfl) T.n_isinstance (by decide +kernel) (pa_cons (pv 1) (pa_cons (pe_tup (pa_cons (pe_bltn (v := .ty "list") (by rfl) T.n_list (by decide +kernel) rfl) (pa_cons (pe_bltn (v := .ty "tuple") (by rfl) T.n_tuple (by decide +kernel) rfl) pa_nil))) pa_nil))))
  (pss_cons (ps_if (PW.pt (pw_or (pt_cmpR (op_neK (K := K) rfl hu64) (pe_callB (call_isiK (K := K) rfl) (by rfl) T.n_isinstance (by decide +kernel) (pa_cons (pv 0) (pa_cons (pe_bltn (v := .ty "list") (by rfl) T.n_list (by decide +kernel) rfl) pa_nil))) (pe_callB (call_isiK (K := K) rfl) (by rfl) T.n_isinstance (by decide +kernel) (pa_cons (pv 1) (pa_cons (pe_bltn (v := .ty "list") (by rfl) T.n_list (by decide +kernel) rfl) pa_nil))) (nomark _)) (pw_or1 (pt_cmpR (op_neK (K := K) rfl hu64) (pe_callB (call_isiK (K := K) rfl) (by rfl) T.n_isinstance (by decide +kernel) (pa_cons (pv 0) (pa_cons (pe_bltn (v := .ty "tuple") (by rfl) T.n_tuple (by decide +kernel) rfl) pa_nil))) (pe_callB (call_isiK (K := K) rfl) (by rfl) T.n_isinstance (by decide +kernel) (pa_cons (pv 1) (pa_cons (pe_bltn (v := .ty "tuple") (by rfl) T.n_tuple (by decide +kernel) rfl) pa_nil))) (nomark _)))))
  (pss_one (ps_ret pe_bl))
  pss_nil)
  (pss_one (ps_ret (pe_and (pe_cmpR (op_eqK (K := K) rfl hu64) (pe_callB (call_lenK (K := K) rfl) (by rfl) T.n_len (by decide +kernel) (pa_cons (pv 0) pa_nil)) (pe_callB (call_lenK (K := K) rfl) (by rfl) T.n_len (by decide +kernel) (pa_cons (pv 1) pa_nil)) (nomark _)) (pe_one (pe_callB (call_allK (K := K) rfl rfl) (by rfl) T.n_all (by decide +kernel) (pa_cons (pe_lc (own := [("_law_one", 2), ("_law_other", 3)]) (g := (gTup K 2 (gCons (gName 2) (gCons (gName 3) gNil)))) (tt := tYes) rfl sc_law_same.nd (pi_zipK (K := K) rfl (RZ.pi_zipA (by rfl) T.n_zip (pa_cons (pv 0) (pa_cons (pv 1) pa_nil)))) (blkOk_by (N := N_law_same) (sc := defScope st_law_same) (by decide +kernel)) (fun _ _ _ _ _ => (pg_tup (by rfl) (pgs_cons (pg_name (i := 2) sc_law_same.nd rfl (by first | exact Or.inl rfl | exact Or.inr rfl)) (pgs_cons (pg_name (i := 3) sc_law_same.nd rfl (by first | exact Or.inl rfl | exact Or.inr rfl)) pgs_nil)))) (fun _ _ _ _ _ => pts_nil) (fun _ _ _ _ _ => pe_never)) pa_nil)))))))
  pss_nil)
  (pss_cons (ps_if (PW.pt (pw_or (pt_cmpR op_isNo (pv 1) pe_non (nomark _)) (pw_or1 (pt_cmpR op_isNo (pv 0) pe_non (nomark _)))))
  (pss_one (ps_ret (pe_and (pe_cmpR op_isNo (pv 1) pe_non (nomark _)) (pe_one (pe_cmpR op_isNo (pv 0) pe_non (nomark _))))))
  pss_nil)
  (pss_cons (ps_if (PW.pt (pw_or (pt_cmpR (op_neK (K := K) rfl hu64) (pe_callB (call_isiK (K := K) rfl) (by rfl) T.n_isinstance (by decide +kernel) (pa_cons (pv 1) (pa_cons (pe_bltn (v := .ty "bool") (by rfl) T.n_bool (by decide +kernel) rfl) pa_nil))) (pe_callB (call_isiK (K := K) rfl) (by rfl) T.n_isinstance (by decide +kernel) (pa_cons (pv 0) (pa_cons (pe_bltn (v := .ty "bool") (by rfl) T.n_bool (by decide +kernel) rfl) pa_nil))) (nomark _)) (pw_or1 (pt_cmpR (op_neK (K := K) rfl hu64) (pe_callB (call_isiK (K := K) rfl) (by rfl) T.n_isinstance (by decide +kernel) (pa_cons (pv 1) (pa_cons (pe_bltn (v := .ty "int") (by rfl) T.n_int (by decide +kernel) rfl) pa_nil))) (pe_callB (call_isiK (K := K) rfl) (by rfl) T.n_isinstance (by decide +kernel) (pa_cons (pv 0) (pa_cons (pe_bltn (v := .ty "int") (by rfl) T.n_int (by decide +kernel) rfl) pa_nil))) (nomark _)))))
  (pss_one (ps_ret pe_bl))
  pss_nil)
  (pss_one (ps_ret (pe_and (pe_cmpR (op_eqK (K := K) rfl hu64) (pe_callB (call_isiK (K := K) rfl) (by rfl) T.n_isinstance (by decide +kernel) (pa_cons (pv 1) (pa_cons (pe_bltn (v := .ty "str") (by rfl) T.n_str (by decide +kernel) rfl) pa_nil))) (pe_callB (call_isiK (K := K) rfl) (by rfl) T.n_isinstance (by decide +kernel) (pa_cons (pv 0) (pa_cons (pe_bltn (v := .ty "str") (by rfl) T.n_str (by decide +kernel) rfl) pa_nil))) (nomark _)) (pe_one (pe_cmpR (op_eqK (K := K) rfl hu64) (pv 0) (pv 1) (nomark _))))))))), ?_⟩
  refine fn_body h fun F as Pp hE hs => ?_
  obtain ⟨d, rfl, hd, p⟩ := hs
  try dsimp only [cxOf, List.map_cons, List.map_nil]
  cases d with
  | non =>
    show WS K F _ [.val .non, .val .non, .none, .none] _
    walk_at "es"
    exact p
  | bl b =>
    show WS K F _ [.val (.bl b), .val (.bl b), .none, .none] _
    walk_at "es"
    simpa using p
  | int b =>
    show WS K F _ [.val (.int b), .val (.int b), .none, .none] _
    walk_at "es"
    simpa using p
  | str b =>
    show WS K F _ [.val (.str b), .val (.str b), .none, .none] _
    walk_at "es"
    simpa using p
  | _ => cases hd
theorem law_same_succ (T : Txt w K mg) (n : Nat) (G_law_same : FnOk P w K mg base CX0 (n + 1) T.a_law_same T.d_law_same ["_law_found", "_law_due"] (spOf K (sp_law_same n))) : FnOk P w K mg base CX0 (n + 2) T.a_law_same T.d_law_same ["_law_found", "_law_due"] (spOf K (sp_law_same (n + 1))) := by
  refine T.F_law_same.ok sc_law_same (fun vs H Q E h => spOf_len (len_law_same (n + 1)) h) (fun cdv A outer s H vs Q E hr h => ?_)
  have hu64 := hr.units
  refine ⟨_, (pss_cons (ps_if (pt_val (pe_callB (call_isiK (K := K) rfl) (by rfl) T.n_isinstance (by decide +kernel) (pa_cons (pv 1) (pa_cons (pe_tup (pa_cons (pe_bltn (v := .ty "list") (by rfl) T.n_list (by decide +kernel) rfl) (pa_cons (pe_bltn (v := .ty "tuple") (by rfl) T.n_tuple (by decide +kernel) rfl) pa_nil))) pa_nil))))
  (pss_cons (ps_if (PW.pt (pw_or (pt_cmpR (op_neK (K := K) rfl hu64) (pe_callB (call_isiK (K := K) rfl) (by rfl) T.n_isinstance (by decide +kernel) (pa_cons (pv 0) (pa_cons (pe_bltn (v := .ty "list") (by rfl) T.n_list (by decide +kernel) rfl) pa_nil))) (pe_callB (call_isiK (K := K) rfl) (by rfl) T.n_isinstance (by decide +kernel) (pa_cons (pv 1) (pa_cons (pe_bltn (v := .ty "list") (by rfl) T.n_list (by decide +kernel) rfl) pa_nil))) (nomark _)) (pw_or1 (pt_cmpR (op_neK (K := K) rfl hu64) (pe_callB (call_isiK (K := K) rfl) (by rfl) T.n_isinstance (by decide +kernel) (pa_cons (pv 0) (pa_cons (pe_bltn (v := .ty "tuple") (by rfl) T.n_tuple (by decide +kernel) rfl) pa_nil))) (pe_callB (call_isiK (K := K) rfl) (by rfl) T.n_isinstance (by decide +kernel) (pa_cons (pv 1) (pa_cons (pe_bltn (v := .ty "tuple") (by rfl) T.n_tuple (by decide +kernel) rfl) pa_nil))) (nomark _)))))
  (pss_one (ps_ret pe_bl))
  pss_nil)
  (pss_one (ps_ret (pe_and (pe_cmpR (op_eqK (K := K) rfl hu64) (pe_callB (call_lenK (K := K) rfl) (by rfl) T.n_len (by decide +kernel) (pa_cons (pv 0) pa_nil)) (pe_callB (call_lenK (K := K) rfl) (by rfl) T.n_len (by decide +kernel) (pa_cons (pv 1) pa_nil)) (nomark _)) (pe_one (pe_callB (call_allK (K := K) rfl rfl) (by rfl) T.n_all (by decide +kernel) (pa_cons (pe_lc (own := [("_law_one", 2), ("_law_other", 3)]) (g := (gTup K 2 (gCons (gName 2) (gCons (gName 3) gNil)))) (tt := tYes) rfl sc_law_same.nd (pi_zipK (K := K) rfl (RZ.pi_zipA (by rfl) T.n_zip (pa_cons (pv 0) (pa_cons (pv 1) pa_nil)))) (blkOk_by (N := N_law_same) (sc := defScope st_law_same) (by decide +kernel)) (fun _ _ _ _ _ => (pg_tup (by rfl) (pgs_cons (pg_name (i := 2) sc_law_same.nd rfl (by first | exact Or.inl rfl | exact Or.inr rfl)) (pgs_cons (pg_name (i := 3) sc_law_same.nd rfl (by first | exact Or.inl rfl | exact Or.inr rfl)) pgs_nil)))) (fun _ _ _ _ _ => pts_nil) (fun _ _ _ _ _ => (pe_call G_law_same (hr.mono (by omega)) (by rfl) T.g_law_same T.F_law_same.kp T.b_law_same .nil pass0 (pa_cons (pv 2) (pa_cons (pv 3) pa_nil))))) pa_nil)))))))
  pss_nil)
  (pss_cons (ps_if (PW.pt (pw_or (pt_cmpR op_isNo (pv 1) pe_non (nomark _)) (pw_or1 (pt_cmpR op_isNo (pv 0) pe_non (nomark _)))))
  (pss_one (ps_ret (pe_and (pe_cmpR op_isNo (pv 1) pe_non (nomark _)) (pe_one (pe_cmpR op_isNo (pv 0) pe_non (nomark _))))))
  pss_nil)
  (pss_cons (ps_if (PW.pt (pw_or (pt_cmpR (op_neK (K := K) rfl hu64) (pe_callB (call_isiK (K := K) rfl) (by rfl) T.n_isinstance (by decide +kernel) (pa_cons (pv 1) (pa_cons (pe_bltn (v := .ty "bool") (by rfl) T.n_bool (by decide +kernel) rfl) pa_nil))) (pe_callB (call_isiK (K := K) rfl) (by rfl) T.n_isinstance (by decide +kernel) (pa_cons (pv 0) (pa_cons (pe_bltn (v := .ty "bool") (by rfl) T.n_bool (by decide +kernel) rfl) pa_nil))) (nomark _)) (pw_or1 (pt_cmpR (op_neK (K := K) rfl hu64) (pe_callB (call_isiK (K := K) rfl) (by rfl) T.n_isinstance (by decide +kernel) (pa_cons (pv 1) (pa_cons (pe_bltn (v := .ty "int") (by rfl) T.n_int (by decide +kernel) rfl) pa_nil))) (pe_callB (call_isiK (K := K) rfl) (by rfl) T.n_isinstance (by decide +kernel) (pa_cons (pv 0) (pa_cons (pe_bltn (v := .ty "int") (by rfl) T.n_int (by decide +kernel) rfl) pa_nil))) (nomark _)))))
  (pss_one (ps_ret pe_bl))
  pss_nil)
  (pss_one (ps_ret (pe_and (pe_cmpR (op_eqK (K := K) rfl hu64) (pe_callB (call_isiK (K := K) rfl) (by rfl) T.n_isinstance (by decide +kernel) (pa_cons (pv 1) (pa_cons (pe_bltn (v := .ty "str") (by rfl) T.n_str (by decide +kernel) rfl) pa_nil))) (pe_callB (call_isiK (K := K) rfl) (by rfl) T.n_isinstance (by decide +kernel) (pa_cons (pv 0) (pa_cons (pe_bltn (v := .ty "str") (by rfl) T.n_str (by decide +kernel) rfl) pa_nil))) (nomark _)) (pe_one (pe_cmpR (op_eqK (K := K) rfl hu64) (pv 0) (pv 1) (nomark _))))))))), ?_⟩
  refine fn_body h fun F as Pp hE hs => ?_
  obtain ⟨d, rfl, hd, p⟩ := hs
  try dsimp only [cxOf, List.map_cons, List.map_nil]
  cases d with
  | non =>
    show WS K F _ [.val .non, .val .non, .none, .none] _
    walk_at "es"
    exact p
  | bl b =>
    show WS K F _ [.val (.bl b), .val (.bl b), .none, .none] _
    walk_at "es"
    simpa using p
  | int b =>
    show WS K F _ [.val (.int b), .val (.int b), .none, .none] _
    walk_at "es"
    simpa using p
  | str b =>
    show WS K F _ [.val (.str b), .val (.str b), .none, .none] _
    walk_at "es"
    simpa using p
  | lst l =>
    rw [dle, Bool.and_eq_true, decide_eq_true_eq, List.all_eq_true] at hd
    have hsp : ∀ x ∈ l, sp_law_same n [.val x, .val x] (fun d => d = .bl true) X0 := fun x hx => ⟨x, rfl, hd.2 x hx, rfl⟩
    have hlen := hd.1
    show WS K F _ [.val (.lst l), .val (.lst l), .none, .none] _
    walk_at "es"
    have e : (l.all fun _ => true) = true := List.all_eq_true.mpr fun _ _ => rfl
    simpa [e] using p
  | tup l =>
    rw [dle, Bool.and_eq_true, decide_eq_true_eq, List.all_eq_true] at hd
    have hsp : ∀ x ∈ l, sp_law_same n [.val x, .val x] (fun d => d = .bl true) X0 := fun x hx => ⟨x, rfl, hd.2 x hx, rfl⟩
    have hlen := hd.1
    show WS K F _ [.val (.tup l), .val (.tup l), .none, .none] _
    walk_at "es"
    have e : (l.all fun _ => true) = true := List.all_eq_true.mpr fun _ _ => rfl
    simpa [e] using p
  | _ => cases hd
theorem ok_law_same (T : Txt w K mg) : ∀ n, FnOk P w K mg base CX0 (n + 1) T.a_law_same T.d_law_same ["_law_found", "_law_due"] (spOf K (sp_law_same n))
  | 0 => law_same_zero T
  | n + 1 => law_same_succ T n (ok_law_same T n)

end
section

theorem ok_law_leaks (T : Txt w K mg) (G_law_pull : FnOk P w K mg base CX0 1 T.a_law_pull T.d_law_pull ["_law_bag_here", "_law_many"] (spOf K sp_law_pull)) : FnOk P w K mg base CX0 2 T.a_law_leaks T.d_law_leaks ["_law_bag_here", "_law_most"] (spOf K sp_law_leaks) := by
  refine T.F_law_leaks.ok sc_law_leaks (fun vs H Q E h => spOf_len len_law_leaks h) (fun cdv A outer s H vs Q E hr h => ?_)
  have hu64 := hr.units
  have hu65 : (A.deeper (envOfC "_law_leaks" (defScope st_law_leaks) s.heap.objs.size T.a_law_leaks cdv)).units + 65 < cLine := by have := hr.un; omega
  refine ⟨_, (pss_one (ps_ret (pe_lc (own := [("_law_k", 2)]) (g := (gName 2)) (tt := tYes) rfl sc_law_leaks.nd (pi_range1 (by rfl) T.n_range (pa_cons (pe_op (op_addK (K := K) rfl) pe_int (pe_call G_law_pull (hr.mono (by omega)) (by rfl) T.g_law_pull T.F_law_pull.kp T.b_law_pull .nil pass0 (pa_cons (pv 0) (pa_cons (pv 1) pa_nil)))) pa_nil)) (blkOk_by (N := N_law_leaks) (sc := defScope st_law_leaks) (by decide +kernel)) (fun _ _ _ _ _ => (pg_name (i := 2) sc_law_leaks.nd rfl (by first | exact Or.inl rfl | exact Or.inr rfl))) (fun _ _ _ _ _ => pts_nil) (fun _ _ _ _ _ => (pe_cmpR op_gt (pe_call G_law_pull (hr.mono (by omega)) (by rfl) T.g_law_pull T.F_law_pull.kp T.b_law_pull .nil pass0 (pa_cons (pv 0) (pa_cons pe_int pa_nil))) pe_int (nomark _)))))), ?_⟩
  refine fn_body h fun F as Pp hE hs => ?_
  obtain ⟨m, rfl, m0, m1, p⟩ := hs
  show WS K F _ [.bag, .val (.int m), .none] _
  refine ws_ret (we_new (wn_drawn [2] (by decide) (wi_rng1 ?_)))
  walk_at "rd"
  refine ⟨_, rfl, by omega, by omega, fun k k0 k1 => ?_⟩
  walk_at "rd"
  refine ⟨_, rfl, by omega, by omega, Bool, D.bl, fun _ _ => True, by rw [rng_length]; omega, fun i d hd => ?_, fun l hl hq => ?_⟩
  · walk_at "rd"
    refine ⟨_, rfl, by decide, by decide, fun c c0 c1 => ?_⟩
    walk_at "rd"
    exact ⟨_, rfl, trivial⟩
  · rw [rng_length] at hl
    exact p l (by omega) (by omega)
end
section
local macro_rules | `(tactic| walk_at "rv") => `(tactic| first | exact rv_eqSt rfl | exact rv_eqSf (by decide +kernel) | exact rv_inSt (l := [sw "take", sw "test"]) (by decide +kernel) | exact rv_inSf (l := [sw "take", sw "test"]) (by decide +kernel) | exact rv_ixY (.inl rfl) (by assumption) (by omega))
local macro_rules | `(tactic| walk_at "cv") => `(tactic| exact cv_lenY (.inl rfl))

theorem ok_law_deed (T : Txt w K mg) (G_law_pull : FnOk P w K mg base CX0 1 T.a_law_pull T.d_law_pull ["_law_bag_here", "_law_many"] (spOf K sp_law_pull)) (G_law_pick : FnOk P w K mg base CX0 2 T.a_law_pick T.d_law_pick ["_law_bag_here", "_law_row"] (spOf K sp_law_pick)) : FnOk P w K mg base CX0 3 T.a_law_deed T.d_law_deed ["_law_bag_here", "_law_leaks_here", "_law_most"] (spOf K sp_law_deed) := by
  refine T.F_law_deed.ok sc_law_deed (fun vs H Q E h => spOf_len len_law_deed h) (fun cdv A outer s H vs Q E hr h => ?_)
  have hu64 := hr.units
  have hu65 : (A.deeper (envOfC "_law_deed" (defScope st_law_deed) s.heap.objs.size T.a_law_deed cdv)).units + 65 < cLine := by have := hr.un; omega
  refine ⟨_, (pss_cons (ps_set (i := 3) sc_law_deed.nd rfl (by first | exact Or.inl rfl | exact Or.inr rfl) (pe_callB (call_lenK (K := K) rfl) (by rfl) T.n_len (by decide +kernel) (pa_cons (pv 1) pa_nil)))
  (pss_cons (ps_set (i := 4) sc_law_deed.nd rfl (by first | exact Or.inl rfl | exact Or.inr rfl) (pe_call G_law_pick (hr.mono (by omega)) (by rfl) T.g_law_pick T.F_law_pick.kp T.b_law_pick .nil pass0 (pa_cons (pv 0) (pa_cons (pe_lst (pa_cons pe_str (pa_cons pe_str (pa_cons pe_str (pa_cons pe_str (pa_cons pe_str (pa_cons pe_str (pa_cons pe_str (pa_cons pe_str (pa_cons pe_str (pa_cons pe_str pa_nil))))))))))) pa_nil))))
  (pss_cons (ps_set (i := 5) sc_law_deed.nd rfl (by first | exact Or.inl rfl | exact Or.inr rfl) (pe_call G_law_pull (hr.mono (by omega)) (by rfl) T.g_law_pull T.F_law_pull.kp T.b_law_pull .nil pass0 (pa_cons (pv 0) (pa_cons (pv 3) pa_nil))))
  (pss_cons (ps_if (pt_cmpR (op_eqK (K := K) rfl hu64) (pv 4) pe_str (nomark _))
  (pss_one (ps_ret (pe_tup (pa_cons pe_str pa_nil))))
  pss_nil)
  (pss_cons (ps_if (PW.pt (pw_or (pt_cmpR (op_eqK (K := K) rfl hu64) (pv 4) pe_str (nomark _)) (pw_or1 (PW.pt (pw_and (pt_cmpR (op_eqK (K := K) rfl hu64) (pv 4) pe_str (nomark _)) (pw_and1 (pt_val (pe_ix (ix_K (K := K) rfl) (pv 1) (pv 5) (fun _ _ => rfl)))))))))
  (pss_one (ps_ret (pe_tup (pa_cons (pv 4) (pa_cons (pv 5) pa_nil)))))
  pss_nil)
  (pss_cons (ps_if (PW.pt (pw_and (pt_cmpR (op_eqK (K := K) rfl hu64) (pv 4) pe_str (nomark _)) (pw_and1 (pt_cmpR op_gt (pv 3) pe_int (nomark _)))))
  (pss_one (ps_ret (pe_tup (pa_cons pe_str (pa_cons (pv 5) (pa_cons (pe_op op_mod (pe_callTy call_intA (by rfl) T.n_int (by decide +kernel) (pa_cons (pe_op (op_addK (K := K) rfl) (pe_op (op_addK (K := K) rfl) (pv 5) pe_int) (pe_call G_law_pull (hr.mono (by omega)) (by rfl) T.g_law_pull T.F_law_pull.kp T.b_law_pull .nil pass0 (pa_cons (pv 0) (pa_cons (pe_op op_sub (pv 3) pe_int) pa_nil)))) pa_nil)) (pv 3)) pa_nil))))))
  pss_nil)
  (pss_one (ps_ret (pe_tup (pa_cons (pe_ifExp (pt_cmpR (op_inK (K := K) rfl hu65) (pv 4) (pe_tup (pa_cons pe_str (pa_cons pe_str pa_nil))) (by rfl)) pe_str pe_str) (pa_cons (pv 5) (pa_cons (pe_op (op_addK (K := K) rfl) pe_int (pe_call G_law_pull (hr.mono (by omega)) (by rfl) T.g_law_pull T.F_law_pull.kp T.b_law_pull .nil pass0 (pa_cons (pv 0) (pa_cons (pv 2) pa_nil)))) pa_nil)))))))))))), ?_⟩
  refine fn_body h fun F as Pp hE hs => ?_
  obtain ⟨lk, m, rfl, l0, l1, m0, m1, p⟩ := hs
  show WS K F _ [.bag, .val (.lst (lk.map D.bl)), .val (.int m), .none, .none, .none] _
  walk_at "es"
  walk_at "rd"
  refine ⟨[.str (sw "skip"), .str (sw "add"), .str (sw "add"), .str (sw "take"), .str (sw "take"), .str (sw "take"), .str (sw "clear"), .str (sw "pour"), .str (sw "test"), .str (sw "test")], rfl, by simp, ?_⟩
  walk_at "rd"
  refine .inl ⟨_, rfl, by simp, by simp, fun d hd => ?_⟩
  have hw : ∃ wd, d = .str wd ∧ (wd = sw "skip" ∨ wd = sw "add" ∨ wd = sw "take" ∨ wd = sw "clear" ∨ wd = sw "pour" ∨ wd = sw "test") := by
    simp only [List.mem_cons, List.not_mem_nil, or_false] at hd
    rcases hd with rfl | rfl | rfl | rfl | rfl | rfl | rfl | rfl | rfl | rfl <;> exact ⟨_, rfl, by simp⟩
  obtain ⟨wd, rfl, hw⟩ := hw
  clear hd
  walk_at "rd"
  refine ⟨_, rfl, by omega, by omega, fun i i0 i1 => ?_⟩
  rcases hw with rfl | rfl | rfl | rfl | rfl | rfl
  · walk_at "es"
    exact p _ (.inl rfl)
  · walk_at "es"
    show WS K F _ _ _
    refine ws_ret (we_tup (wa_cons (EV.we (v := .str (sw "add")) (by walk_at "ev") ?_)))
    walk_at "rd"
    refine ⟨_, rfl, by omega, by omega, fun k k0 k1 => ?_⟩
    walk_at "rd"
    refine ⟨[.str (sw "add"), .int i, .int (1 + k)], rfl, by simp, p _ (.inr (.inr (.inr (.inr ⟨_, i, 1 + k, .inl rfl, i0, i1, by omega, by omega, rfl⟩))))⟩
  · walk_at "es"
    show WS K F _ _ _
    refine ws_ret (we_tup (wa_cons (EV.we (v := .str (sw "take")) (by walk_at "ev") ?_)))
    walk_at "rd"
    refine ⟨_, rfl, by omega, by omega, fun k k0 k1 => ?_⟩
    walk_at "rd"
    refine ⟨[.str (sw "take"), .int i, .int (1 + k)], rfl, by simp, p _ (.inr (.inr (.inr (.inr ⟨_, i, 1 + k, .inr rfl, i0, i1, by omega, by omega, rfl⟩))))⟩
  · walk_at "es"
    exact p _ (.inr (.inl ⟨i, i0, i1, rfl⟩))
  · walk_at "es1"
    walk_at "es1"
    walk_at "es1"
    walk_at "es1"
    walk_at "es1"
    walk_at "es1"
    walk_at "es1"
    refine es_if (b := decide ((1 : Int) < lk.length)) (by walk_at "et") (.inr (.inr ⟨fun hb => ?_, fun hb => ?_⟩))
    · have hb := of_decide_eq_true hb
      walk_at "rd"
      refine ⟨_, rfl, by omega, by omega, fun k k0 k1 => ?_⟩
      walk_at "rd"
      refine rd_iC (by omega) ?_
      walk_at "rd"
      obtain ⟨h1, h2, h3⟩ := other_mod i0 i1 k0 k1
      exact ⟨[.str (sw "pour"), .int i, .int ((i + 1 + k) % lk.length)], rfl, by simp, p _ (.inr (.inr (.inr (.inl ⟨i, _, i0, i1, h1, h2, h3, rfl⟩))))⟩
    · walk_at "es1"
      show WS K F _ _ _
      refine ws_ret (we_tup (wa_cons (EV.we (v := .str (sw "add")) (by walk_at "ev") ?_)))
      walk_at "rd"
      refine ⟨_, rfl, by omega, by omega, fun k k0 k1 => ?_⟩
      walk_at "rd"
      refine ⟨[.str (sw "add"), .int i, .int (1 + k)], rfl, by simp, p _ (.inr (.inr (.inr (.inr ⟨_, i, 1 + k, .inl rfl, i0, i1, by omega, by omega, rfl⟩))))⟩
  · walk_at "es1"
    walk_at "es1"
    walk_at "es1"
    walk_at "es1"
    refine es_if (b := lk.getD i.toNat false) (by walk_at "et") (.inr (.inr ⟨fun hl => ?_, fun hl => ?_⟩))
    · walk_at "es"
      exact p _ (.inr (.inr (.inl ⟨i, i0, i1, hl, rfl⟩)))
    · walk_at "es1"
      walk_at "es1"
      walk_at "es1"
      walk_at "es1"
      show WS K F _ _ _
      refine ws_ret (we_tup (wa_cons (EV.we (v := .str (sw "take")) (by walk_at "ev") ?_)))
      walk_at "rd"
      refine ⟨_, rfl, by omega, by omega, fun k k0 k1 => ?_⟩
      walk_at "rd"
      refine ⟨[.str (sw "take"), .int i, .int (1 + k)], rfl, by simp, p _ (.inr (.inr (.inr (.inr ⟨_, i, 1 + k, .inr rfl, i0, i1, by omega, by omega, rfl⟩))))⟩
end
section

theorem ok_law_model (T : Txt w K mg) (G_law_pull : FnOk P w K mg base CX0 1 T.a_law_pull T.d_law_pull ["_law_bag_here", "_law_many"] (spOf K sp_law_pull)) (G_law_pick : FnOk P w K mg base CX0 2 T.a_law_pick T.d_law_pick ["_law_bag_here", "_law_row"] (spOf K sp_law_pick)) (G_law_leaks : FnOk P w K mg base CX0 2 T.a_law_leaks T.d_law_leaks ["_law_bag_here", "_law_most"] (spOf K sp_law_leaks)) (G_law_deed : FnOk P w K mg base CX0 3 T.a_law_deed T.d_law_deed ["_law_bag_here", "_law_leaks_here", "_law_most"] (spOf K sp_law_deed)) : FnOk P w K mg base CX0 4 T.a_law_model T.d_law_model ["_law_bag_here", "_law_width", "_law_nodes_z", "_law_edges", "_law_most"] (spOf K sp_law_model) := by
  refine T.F_law_model.ok sc_law_model (fun vs H Q E h => spOf_len len_law_model h) (fun cdv A outer s H vs Q E hr h => ?_)
  have hu64 := hr.units
  have hu65 : (A.deeper (envOfC "_law_model" (defScope st_law_model) s.heap.objs.size T.a_law_model cdv)).units + 65 < cLine := by have := hr.un; omega
  refine ⟨_, (pss_cons (ps_par (i := 5) (j := 6) (by rfl) sc_law_model.nd rfl rfl (by decide) rfl rfl (pa_cons (pe_call G_law_leaks (hr.mono (by omega)) (by rfl) T.g_law_leaks T.F_law_leaks.kp T.b_law_leaks .nil pass0 (pa_cons (pv 0) (pa_cons (pv 1) pa_nil))) (pa_cons (pe_op (op_addK (K := K) rfl) pe_int (pe_call G_law_pull (hr.mono (by omega)) (by rfl) T.g_law_pull T.F_law_pull.kp T.b_law_pull .nil pass0 (pa_cons (pv 0) (pa_cons (pv 2) pa_nil)))) pa_nil)) (by rfl))
  (pss_cons (ps_set (i := 7) sc_law_model.nd rfl (by first | exact Or.inl rfl | exact Or.inr rfl) (pe_lst pa_nil))
  (pss_cons (ps_for PassesOwn.never rfl (pi_range1 (by rfl) T.n_range (pa_cons (pe_call G_law_pull (hr.mono (by omega)) (by rfl) T.g_law_pull T.F_law_pull.kp T.b_law_pull .nil pass0 (pa_cons (pv 0) (pa_cons (pe_op (op_addK (K := K) rfl) (pv 3) pe_int) pa_nil))) pa_nil)) (pg_name (i := 8) sc_law_model.nd rfl (by first | exact Or.inl rfl | exact Or.inr rfl))
  (pss_cons (ps_set (i := 9) sc_law_model.nd rfl (by first | exact Or.inl rfl | exact Or.inr rfl) (pe_call G_law_pick (hr.mono (by omega)) (by rfl) T.g_law_pick T.F_law_pick.kp T.b_law_pick .nil pass0 (pa_cons (pv 0) (pa_cons (pe_lst (pa_cons pe_str (pa_cons pe_str (pa_cons pe_str (pa_cons pe_str (pa_cons pe_str pa_nil)))))) pa_nil))))
  (pss_one (ps_expr (pe_bm PySem.F.plainAttrs_list PySem.F.slot_list_append PySem.F.type_list_append mt_append (pv 7) (pa_cons (pe_tup (pa_cons (pe_call G_law_pull (hr.mono (by omega)) (by rfl) T.g_law_pull T.F_law_pull.kp T.b_law_pull .nil pass0 (pa_cons (pv 0) (pa_cons (pv 6) pa_nil))) (pa_cons (pe_call G_law_deed (hr.mono (by omega)) (by rfl) T.g_law_deed T.F_law_deed.kp T.b_law_deed .nil pass0 (pa_cons (pv 0) (pa_cons (pv 5) (pa_cons (pv 4) pa_nil)))) (pa_cons (pe_call G_law_pull (hr.mono (by omega)) (by rfl) T.g_law_pull T.F_law_pull.kp T.b_law_pull .nil pass0 (pa_cons (pv 0) (pa_cons (pv 6) pa_nil))) (pa_cons (pv 9) pa_nil))))) pa_nil))))))
  (pss_one (ps_ret (pe_lst (pa_cons (pv 5) (pa_cons (pv 7) (pa_cons (pe_call G_law_pull (hr.mono (by omega)) (by rfl) T.g_law_pull T.F_law_pull.kp T.b_law_pull .nil pass0 (pa_cons (pv 0) (pa_cons (pv 6) pa_nil))) (pa_cons (pv 6) pa_nil)))))))))), ?_⟩
  refine fn_body h fun F as Pp hE hs => ?_
  obtain ⟨wd, n, m, k, rfl, w0, w1, n0, n1, m0, m1, k0, k1, p⟩ := hs
  show WS K F _ [.bag, .val (.int wd), .val (.int n), .val (.int m), .val (.int k), .none, .none, .none, .none, .none] _
  walk_at "rd"
  refine ⟨_, rfl, by omega, by omega, fun lk l1 l2 => ?_⟩
  walk_at "rd"
  refine ⟨_, rfl, by omega, by omega, fun c c0 c1 => ?_⟩
  walk_at "rd"
  refine ⟨_, _, rfl, ?_⟩
  refine ws_seq (ws_own (wn_lst (wa_nil ⟨[], rfl, by decide, ?_⟩)))
  show WS K F _ [.bag, .val (.int wd), .val (.int n), .val (.int m), .val (.int k), .val (.lst (lk.map D.bl)), .val (.int (1 + c)), .own (.lst []), .none, .none] _
  refine ws_seq (ws_for (ts := [8]) (wi_rng1 ?_))
  walk_at "rd"
  refine ⟨_, rfl, by omega, by omega, fun r r0 r1 => ?_⟩
  walk_at "rd"
  refine ⟨_, rfl, by omega, by omega, fun i δ' => ∃ es y z, δ' = [.bag, .val (.int wd), .val (.int n), .val (.int m), .val (.int k), .val (.lst (lk.map D.bl)), .val (.int (1 + c)), .own (.lst es), y, z] ∧ es.length = i ∧ ∀ e ∈ es, edgeOk lk (1 + c) k e, ⟨_, _, _, rfl, rfl, fun e he => by cases he⟩, fun i d δ' hd hi => ?_, fun δ' hi => ?_⟩
  · obtain ⟨es, y, z, rfl, hle, hed⟩ := hi
    have hil := (rng_get hd).1
    refine wg_name ?_
    show WS K F _ [.bag, .val (.int wd), .val (.int n), .val (.int m), .val (.int k), .val (.lst (lk.map D.bl)), .val (.int (1 + c)), .own (.lst es), .val d, z] _
    walk_at "rd"
    refine ⟨[.str (sw ""), .str (sw ""), .str (sw "a"), .str (sw "b"), .str (sw "ab")], rfl, by simp, ?_⟩
    walk_at "rd"
    refine .inl ⟨_, rfl, by simp, by simp, fun d1 hd1 => ?_⟩
    have hlb : ∃ lb : Str, d1 = .str lb ∧ (isName (.str lb) = true ∨ lb = sw "") ∧ lb.length ≤ 6 := by
      simp only [List.mem_cons, List.not_mem_nil, or_false] at hd1
      rcases hd1 with rfl | rfl | rfl | rfl | rfl
      · exact ⟨_, rfl, .inr rfl, by decide +kernel⟩
      · exact ⟨_, rfl, .inr rfl, by decide +kernel⟩
      · exact ⟨_, rfl, .inl (by decide +kernel), by decide +kernel⟩
      · exact ⟨_, rfl, .inl (by decide +kernel), by decide +kernel⟩
      · exact ⟨_, rfl, .inl (by decide +kernel), by decide +kernel⟩
    obtain ⟨lb, rfl, lb1, lb2⟩ := hlb
    show WS K F _ [.bag, .val (.int wd), .val (.int n), .val (.int m), .val (.int k), .val (.lst (lk.map D.bl)), .val (.int (1 + c)), .own (.lst es), .val d, .val (.str lb)] _
    refine ws_append (i := 7) rfl (by omega) ?_
    walk_at "rd"
    refine ⟨_, rfl, by omega, by omega, fun s s0 s1 => ?_⟩
    walk_at "rd"
    refine ⟨lk, k, rfl, by omega, by omega, by omega, by omega, fun dd hdd => ?_⟩
    walk_at "rd"
    refine ⟨_, rfl, by omega, by omega, fun t t0 t1 => ?_⟩
    walk_at "rd"
    refine ⟨[.int s, dd, .int t, .str lb], rfl, by simp, ?_⟩
    refine ⟨_, _, _, rfl, by rw [List.length_append, hle]; rfl, fun e he => ?_⟩
    rcases List.mem_append.mp he with he | he
    · exact hed e he
    · rw [List.mem_singleton.mp he]
      exact ⟨s, t, dd, lb, rfl, s0, s1, t0, t1, hdd, lb1, lb2⟩
  · obtain ⟨es, y, z, rfl, hle, hed⟩ := hi
    rw [rng_length] at hle
    refine ws_freeze (i := 7) rfl ?_
    show WS K F _ [.bag, .val (.int wd), .val (.int n), .val (.int m), .val (.int k), .val (.lst (lk.map D.bl)), .val (.int (1 + c)), .val (.lst es), y, z] _
    walk_at "rd"
    refine ⟨_, rfl, by omega, by omega, fun s s0 s1 => ?_⟩
    walk_at "rd"
    exact ⟨[.lst (lk.map D.bl), .lst es, .int s, .int (1 + c)], rfl, by simp, p lk es s (1 + c) l1 (by omega) (by omega) (by omega) (by omega) hed s0 s1⟩
end
section
local macro_rules | `(tactic| walk_at "rv") => `(tactic| first | exact rv_ixL (atI_nat (j := 0) rfl) | exact rv_ixL (atI_nat (j := 1) rfl) | exact rv_ixL (atI_nat (j := 2) rfl) | exact rv_ixL (atI_nat (j := 3) rfl))

theorem ok_law_made (T : Txt w K mg) (G_Machine_init : FnOk P w K mg base CX0 4 T.a_Machine_init T.d_Machine_init ["self", "leaks", "edges", "start", "nodes"] (spIOf K T.a_Machine sp_Machine_init)) : FnOk P w K mg base CX0 6 T.a_law_made T.d_law_made ["_law_model_here"] (spOf K (sp_law_made T.a_Machine)) := by
  refine T.F_law_made.ok sc_law_made (fun vs H Q E h => spOf_len len_law_made h) (fun cdv A outer s H vs Q E hr h => ?_)
  have hu64 := hr.units
  have hu65 : (A.deeper (envOfC "_law_made" (defScope st_law_made) s.heap.objs.size T.a_law_made cdv)).units + 65 < cLine := by have := hr.un; omega
  refine ⟨_, (pss_one (ps_ret (pe_makeK T.mk_Machine G_Machine_init (hr.mono (by omega)) (by rfl) T.c_Machine T.kb_Machine_init_3_start_nodes pass0 (pa_cons (pe_ix (ix_K (K := K) rfl) (pv 0) pe_int (fun _ _ => rfl)) (pa_cons (pe_ix (ix_K (K := K) rfl) (pv 0) pe_int (fun _ _ => rfl)) pa_nil)) (pk_cons (pe_ix (ix_K (K := K) rfl) (pv 0) pe_int (fun _ _ => rfl)) (pk_cons (pe_ix (ix_K (K := K) rfl) (pv 0) pe_int (fun _ _ => rfl)) pk_nil))))), ?_⟩
  refine fn_body h fun F as Pp hE hs => ?_
  obtain ⟨lk, es, st, many, rfl, l1, l2, h1, h2, h3, h4, h5, h6, p⟩ := hs
  show WS K F _ [.val (.lst [.lst (lk.map D.bl), .lst es, .int st, .int many])] _
  refine es_ret (ev_makeK (ds := [.lst (lk.map D.bl), .lst es]) (es := [.int st, .int many]) (gD := fun us ws => atL us 0 ++ atL us 1 ++ atL ws 0 ++ atL ws 1) (by walk_at "ed") (by walk_at "ed") rfl rfl (fun G v vs zs ds es hv hz => ⟨_, rfl, DVs.append (DVs.append (DVs.append (dvs_atL hv 0) (dvs_atL hv 1)) (dvs_atL hz 0)) (dvs_atL hz 1)⟩) ⟨lk, es, st, .int many, many, many, rfl, l1, l2, h1, .inl ⟨rfl, rfl, h2, h3⟩, h4, h5, h6, rfl⟩) p
end
section

theorem ok_law (T : Txt w K mg) (G_Machine_init : FnOk P w K mg base CX0 4 T.a_Machine_init T.d_Machine_init ["self", "leaks", "edges", "start", "nodes"] (spIOf K T.a_Machine sp_Machine_init)) (G_Machine_nodes : FnOk P w K mg base CX0 1 T.a_Machine_nodes T.d_Machine_nodes ["self"] (spOf K (sp_Machine_nodes T.a_Machine))) (G_Machine_start : FnOk P w K mg base CX0 1 T.a_Machine_start T.d_Machine_start ["self"] (spOf K (sp_Machine_start T.a_Machine))) (G_Machine_leaks : FnOk P w K mg base CX0 1 T.a_Machine_leaks T.d_Machine_leaks ["self"] (spOf K (sp_Machine_leaks T.a_Machine))) (G_Machine_edges : FnOk P w K mg base CX0 1 T.a_Machine_edges T.d_Machine_edges ["self"] (spOf K (sp_Machine_edges T.a_Machine))) (G_Machine_eq : FnOk P w K mg base CX0 2 T.a_Machine_eq T.d_Machine_eq ["self", "other"] (spOf K (sp_Machine_eq T.a_Machine))) (G_Machine_barred : FnR P w K mg base CX0 7 T.a_Machine_barred (spStar K 1 (sp_Machine_barred T.a_Machine))) (G_Machine_with_edge : FnOk P w K mg base CX0 7 T.a_Machine_with_edge T.d_Machine_with_edge ["self", "edge"] (spOf K (sp_Machine_with_edge T.a_Machine))) (G_Machine_begun : FnOk P w K mg base CX0 6 T.a_Machine_begun T.d_Machine_begun ["self", "start"] (spOf K (sp_Machine_begun T.a_Machine))) (G_law_bag : FnOk P w K mg base CX0 1 T.a_law_bag T.d_law_bag ["_law_script"] (spB_law_bag K)) (G_law_pull : FnOk P w K mg base CX0 1 T.a_law_pull T.d_law_pull ["_law_bag_here", "_law_many"] (spOf K sp_law_pull)) (G_law_pick : FnOk P w K mg base CX0 2 T.a_law_pick T.d_law_pick ["_law_bag_here", "_law_row"] (spOf K sp_law_pick)) (G_law_same : FnOk P w K mg base CX0 5 T.a_law_same T.d_law_same ["_law_found", "_law_due"] (spOf K (sp_law_same 4))) (G_law_deed : FnOk P w K mg base CX0 3 T.a_law_deed T.d_law_deed ["_law_bag_here", "_law_leaks_here", "_law_most"] (spOf K sp_law_deed)) (G_law_model : FnOk P w K mg base CX0 4 T.a_law_model T.d_law_model ["_law_bag_here", "_law_width", "_law_nodes_z", "_law_edges", "_law_most"] (spOf K sp_law_model)) (G_law_made : FnOk P w K mg base CX0 6 T.a_law_made T.d_law_made ["_law_model_here"] (spOf K (sp_law_made T.a_Machine))) : FnOk P w K mg base CX0 9 T.a_law T.d_law ["_law_script"] (spLaw K) := by
  refine T.F_law.ok sc_law (fun vs H Q E h => ?_) (fun cdv A outer s H vs Q E hr h => ?_)
  · obtain ⟨a, ns, rfl, _⟩ := h
    rfl
  obtain ⟨a, ns, rfl, hS, hlen, q⟩ := h
  have hu64 := hr.units
  have hu65 : (A.deeper (envOfC "law" (defScope st_law) s.heap.objs.size T.a_law cdv)).units + 65 < cLine := by have := hr.un; omega
  refine ⟨_, (pss_cons (ps_set (i := 1) sc_law.nd rfl (by first | exact Or.inl rfl | exact Or.inr rfl) (pe_call G_law_bag (hr.mono (by omega)) (by rfl) T.g_law_bag T.F_law_bag.kp T.b_law_bag .nil pass0 (pa_cons (pv 0) pa_nil)))
  (pss_cons (ps_for PassesOwn.never rfl (pi_range1 (by rfl) T.n_range (pa_cons pe_int pa_nil)) (pg_name (i := 2) sc_law.nd rfl (by first | exact Or.inl rfl | exact Or.inr rfl))
  (pss_cons (ps_set (i := 3) sc_law.nd rfl (by first | exact Or.inl rfl | exact Or.inr rfl) (pe_call G_law_model (hr.mono (by omega)) (by rfl) T.g_law_model T.F_law_model.kp T.b_law_model .nil pass0 (pa_cons (pv 1) (pa_cons pe_int (pa_cons pe_int (pa_cons pe_int (pa_cons pe_int pa_nil)))))))
  (pss_cons (ps_asg (pe_tup (pa_cons (pe_ix (ix_K (K := K) rfl) (pv 3) pe_int (fun _ _ => rfl)) (pa_cons (pe_ix (ix_K (K := K) rfl) (pv 3) pe_int (fun _ _ => rfl)) pa_nil))) (pg_tup (by rfl) (pgs_cons (pg_name (i := 4) sc_law.nd rfl (by first | exact Or.inl rfl | exact Or.inr rfl)) (pgs_cons (pg_name (i := 5) sc_law.nd rfl (by first | exact Or.inl rfl | exact Or.inr rfl)) pgs_nil))))
  (pss_cons (ps_par (i := 6) (j := 7) (by rfl) sc_law.nd rfl rfl (by decide) rfl rfl (pa_cons (pe_ix (ix_K (K := K) rfl) (pv 3) pe_int (fun _ _ => rfl)) (pa_cons (pe_ix (ix_K (K := K) rfl) (pv 3) pe_int (fun _ _ => rfl)) pa_nil)) (by rfl))
  (pss_cons (ps_asg (pe_tup (pa_cons (pe_call G_law_made (hr.mono (by omega)) (by rfl) T.g_law_made T.F_law_made.kp T.b_law_made .nil pass0 (pa_cons (pv 3) pa_nil)) (pa_cons (pe_callB (call_lenK (K := K) rfl) (by rfl) T.n_len (by decide +kernel) (pa_cons (pv 5) pa_nil)) pa_nil))) (pg_tup (by rfl) (pgs_cons (pg_name (i := 8) sc_law.nd rfl (by first | exact Or.inl rfl | exact Or.inr rfl)) (pgs_cons (pg_name (i := 9) sc_law.nd rfl (by first | exact Or.inl rfl | exact Or.inr rfl)) pgs_nil))))
  (pss_cons (ps_set (i := 10) sc_law.nd rfl (by first | exact Or.inl rfl | exact Or.inr rfl) (pe_lc (own := [("_law_k", 11)]) (g := (gName 11)) rfl sc_law.nd (pi_range1 (by rfl) T.n_range (pa_cons pe_int pa_nil)) (blkOk_by (N := N_law) (sc := defScope st_law) (by decide +kernel)) (fun _ _ _ _ _ => (pg_name (i := 11) sc_law.nd rfl (by first | exact Or.inl rfl | exact Or.inr rfl))) (fun _ _ _ _ _ => (pts_one (pt_cmpR op_gt (pv 9) pe_int (nomark _)))) (fun _ _ _ _ _ => (pe_call G_law_pull (hr.mono (by omega)) (by rfl) T.g_law_pull T.F_law_pull.kp T.b_law_pull .nil pass0 (pa_cons (pv 1) (pa_cons (pv 9) pa_nil))))))
  (pss_cons (ps_setLc (i := 12) (own := [("_law_at", 13)]) (g := (gName 13)) rfl sc_law.nd rfl rfl (sw_true rfl rfl rfl (by decide +kernel)) (pi_range1 (by rfl) T.n_range (pa_cons (pv 9) pa_nil)) (blkOk_by (N := N_law) (sc := defScope st_law) (by decide +kernel)) (fun _ _ _ _ _ => (pg_name (i := 13) sc_law.nd rfl (by first | exact Or.inl rfl | exact Or.inr rfl))) (fun _ _ _ _ _ => (pts_one (pt_cmpR (op_ninK (K := K) rfl hu65) (pv 13) (pv 10) (by rfl)))) (fun _ _ _ _ _ => (pe_ix (ix_K (K := K) rfl) (pv 5) (pv 13) (fun _ _ => rfl))))
  (pss_cons (ps_set (i := 14) sc_law.nd rfl (by first | exact Or.inl rfl | exact Or.inr rfl) (pe_ifExp (pt_cmpR op_gt (pv 9) pe_int (nomark _)) (pe_methR (pv 8) T.cl_Machine T.m_Machine_barred G_Machine_barred (hr.mono (by omega)) pass0 (pa_cons (pe_ix (ix_K (K := K) rfl) (pv 10) pe_int (fun _ _ => rfl)) (pa_cons (pe_ix (ix_K (K := K) rfl) (pv 10) pe_int (fun _ _ => rfl)) (pa_cons (pe_ix (ix_K (K := K) rfl) (pv 10) pe_int (fun _ _ => rfl)) pa_nil)))) (pe_methR0 (pv 8) T.cl_Machine T.m_Machine_barred G_Machine_barred (hr.mono (by omega)) pass0)))
  (pss_cons (ps_if (PW.pt (pw_or (pt_cmpR (op_neOwnK (K := K) rfl T.eq_Machine G_Machine_eq (hr.mono (by omega)) T.b_Machine_eq pass0) (pv 14) (pe_makeK T.mk_Machine G_Machine_init (hr.mono (by omega)) (by rfl) T.c_Machine T.kb_Machine_init_3_start_nodes pass0 (pa_cons (pv 4) (pa_cons (pv 12) pa_nil)) (pk_cons (pv 6) (pk_cons (pv 7) pk_nil))) (nomark _)) (pw_or1 (pt_cmpR (op_neK (K := K) rfl hu64) (pe_prop (pv 14) T.cl_Machine T.pp_Machine_nodes G_Machine_nodes (hr.mono (by omega)) T.b_Machine_nodes .nil pass0 rfl) (pv 7) (nomark _)))))
  (pss_one (ps_ret pe_bl))
  pss_nil)
  (pss_cons (ps_if (pt_cmpR (op_neOwnK (K := K) rfl T.eq_Machine G_Machine_eq (hr.mono (by omega)) T.b_Machine_eq pass0) (pe_methR0 (pv 8) T.cl_Machine T.m_Machine_barred G_Machine_barred (hr.mono (by omega)) pass0) (pv 8) (nomark _))
  (pss_one (ps_ret pe_bl))
  pss_nil)
  (pss_cons (ps_for PassesOwn.never rfl (pi_range1 (by rfl) T.n_range (pa_cons (pv 9) pa_nil)) (pg_name (i := 13) sc_law.nd rfl (by first | exact Or.inl rfl | exact Or.inr rfl))
  (pss_one (ps_if (pt_not (pt_val (pe_call G_law_same (hr.mono (by omega)) (by rfl) T.g_law_same T.F_law_same.kp T.b_law_same .nil pass0 (pa_cons (pe_meth0 (pe_methR (pv 8) T.cl_Machine T.m_Machine_barred G_Machine_barred (hr.mono (by omega)) pass0 (pa_cons (pv 13) pa_nil)) T.cl_Machine T.m_Machine_edges G_Machine_edges (hr.mono (by omega)) T.b_Machine_edges .nil pass0) (pa_cons (pe_op (op_addK (K := K) rfl) (pe_slice (sl_K (K := K) rfl) (pv 5) po_none (po_some (pv 13))) (pe_slice (sl_K (K := K) rfl) (pv 5) (po_some (pe_op (op_addK (K := K) rfl) (pv 13) pe_int)) po_none)) pa_nil)))))
  (pss_one (ps_ret pe_bl))
  pss_nil)))
  (pss_cons (ps_set (i := 15) sc_law.nd rfl (by first | exact Or.inl rfl | exact Or.inr rfl) (pe_tup (pa_cons (pe_call G_law_pull (hr.mono (by omega)) (by rfl) T.g_law_pull T.F_law_pull.kp T.b_law_pull .nil pass0 (pa_cons (pv 1) (pa_cons (pv 7) pa_nil))) (pa_cons (pe_call G_law_deed (hr.mono (by omega)) (by rfl) T.g_law_deed T.F_law_deed.kp T.b_law_deed .nil pass0 (pa_cons (pv 1) (pa_cons (pv 4) (pa_cons pe_int pa_nil)))) (pa_cons (pe_call G_law_pull (hr.mono (by omega)) (by rfl) T.g_law_pull T.F_law_pull.kp T.b_law_pull .nil pass0 (pa_cons (pv 1) (pa_cons (pv 7) pa_nil))) (pa_cons (pe_call G_law_pick (hr.mono (by omega)) (by rfl) T.g_law_pick T.F_law_pick.kp T.b_law_pick .nil pass0 (pa_cons (pv 1) (pa_cons (pe_lst (pa_cons pe_str (pa_cons pe_str pa_nil))) pa_nil))) pa_nil))))))
  (pss_cons (ps_set (i := 16) sc_law.nd rfl (by first | exact Or.inl rfl | exact Or.inr rfl) (pe_methN0 (pv 8) T.cl_Machine T.m_Machine_with_edge G_Machine_with_edge (hr.mono (by omega)) T.kb_Machine_with_edge_1_edge pass0 (pk_cons (pv 15) pk_nil)))
  (pss_cons (ps_if (pt_not (pt_val (pe_call G_law_same (hr.mono (by omega)) (by rfl) T.g_law_same T.F_law_same.kp T.b_law_same .nil pass0 (pa_cons (pe_lst (pa_cons (pe_meth0 (pv 16) T.cl_Machine T.m_Machine_edges G_Machine_edges (hr.mono (by omega)) T.b_Machine_edges .nil pass0) (pa_cons (pe_prop (pv 16) T.cl_Machine T.pp_Machine_nodes G_Machine_nodes (hr.mono (by omega)) T.b_Machine_nodes .nil pass0 rfl) (pa_cons (pe_prop (pv 16) T.cl_Machine T.pp_Machine_start G_Machine_start (hr.mono (by omega)) T.b_Machine_start .nil pass0 rfl) pa_nil)))) (pa_cons (pe_lst (pa_cons (pe_op (op_addK (K := K) rfl) (pv 5) (pe_lst (pa_cons (pv 15) pa_nil))) (pa_cons (pv 7) (pa_cons (pv 6) pa_nil)))) pa_nil)))))
  (pss_one (ps_ret pe_bl))
  pss_nil)
  (pss_cons (ps_set (i := 17) sc_law.nd rfl (by first | exact Or.inl rfl | exact Or.inr rfl) (pe_meth0 (pe_meth (pe_meth (pv 8) T.cl_Machine T.m_Machine_with_edge G_Machine_with_edge (hr.mono (by omega)) T.b_Machine_with_edge .nil pass0 (pa_cons (pv 15) pa_nil)) T.cl_Machine T.m_Machine_with_edge G_Machine_with_edge (hr.mono (by omega)) T.b_Machine_with_edge .nil pass0 (pa_cons (pv 15) pa_nil)) T.cl_Machine T.m_Machine_edges G_Machine_edges (hr.mono (by omega)) T.b_Machine_edges .nil pass0))
  (pss_cons (ps_if (PW.pt (pw_or (pt_cmpR (op_neOwnK (K := K) rfl T.eq_Machine G_Machine_eq (hr.mono (by omega)) T.b_Machine_eq pass0) (pe_methR (pv 16) T.cl_Machine T.m_Machine_barred G_Machine_barred (hr.mono (by omega)) pass0 (pa_cons (pv 9) pa_nil)) (pv 8) (nomark _)) (pw_or1 (pt_not (pt_val (pe_call G_law_same (hr.mono (by omega)) (by rfl) T.g_law_same T.F_law_same.kp T.b_law_same .nil pass0 (pa_cons (pv 17) (pa_cons (pe_op (op_addK (K := K) rfl) (pv 5) (pe_op (op_mulK (K := K) rfl) (pe_lst (pa_cons (pv 15) pa_nil)) pe_int)) pa_nil))))))))
  (pss_one (ps_ret pe_bl))
  pss_nil)
  (pss_cons (ps_set (i := 18) sc_law.nd rfl (by first | exact Or.inl rfl | exact Or.inr rfl) (pe_call G_law_pull (hr.mono (by omega)) (by rfl) T.g_law_pull T.F_law_pull.kp T.b_law_pull .nil pass0 (pa_cons (pv 1) (pa_cons (pv 7) pa_nil))))
  (pss_cons (ps_if (pt_cmpR (op_neOwnK (K := K) rfl T.eq_Machine G_Machine_eq (hr.mono (by omega)) T.b_Machine_eq pass0) (pe_meth (pv 8) T.cl_Machine T.m_Machine_begun G_Machine_begun (hr.mono (by omega)) T.b_Machine_begun .nil pass0 (pa_cons (pv 18) pa_nil)) (pe_makeK T.mk_Machine G_Machine_init (hr.mono (by omega)) (by rfl) T.c_Machine T.kb_Machine_init_3_start_nodes pass0 (pa_cons (pv 4) (pa_cons (pv 5) pa_nil)) (pk_cons (pv 18) (pk_cons (pv 7) pk_nil))) (nomark _))
  (pss_one (ps_ret pe_bl))
  pss_nil)
  (pss_cons (ps_if (pt_cmpR (op_neOwnK (K := K) rfl T.eq_Machine G_Machine_eq (hr.mono (by omega)) T.b_Machine_eq pass0) (pe_methN0 (pv 8) T.cl_Machine T.m_Machine_begun G_Machine_begun (hr.mono (by omega)) T.kb_Machine_begun_1_start pass0 (pk_cons (pv 6) pk_nil)) (pv 8) (nomark _))
  (pss_one (ps_ret pe_bl))
  pss_nil)
  (pss_one (ps_if (pt_not (pt_val (pe_call G_law_same (hr.mono (by omega)) (by rfl) T.g_law_same T.F_law_same.kp T.b_law_same .nil pass0 (pa_cons (pe_lst (pa_cons (pe_meth0 (pv 8) T.cl_Machine T.m_Machine_edges G_Machine_edges (hr.mono (by omega)) T.b_Machine_edges .nil pass0) (pa_cons (pe_prop (pv 8) T.cl_Machine T.pp_Machine_start G_Machine_start (hr.mono (by omega)) T.b_Machine_start .nil pass0 rfl) (pa_cons (pe_prop (pv 8) T.cl_Machine T.pp_Machine_nodes G_Machine_nodes (hr.mono (by omega)) T.b_Machine_nodes .nil pass0 rfl) (pa_cons (pe_meth0 (pv 8) T.cl_Machine T.m_Machine_leaks G_Machine_leaks (hr.mono (by omega)) T.b_Machine_leaks .nil pass0) pa_nil))))) (pa_cons (pe_lst (pa_cons (pv 5) (pa_cons (pv 6) (pa_cons (pv 7) (pa_cons (pv 4) pa_nil))))) pa_nil)))))
  (pss_one (ps_ret pe_bl))
  pss_nil)))))))))))))))))))))
  (pss_one (ps_ret pe_bl)))), ?_⟩
  refine enter_law (n := 17) rfl hS hlen q fun F => ?_
  show WS K F _ [.none, .bag, .none, .none, .none, .none, .none, .none, .none, .none, .none, .none, .none, .none, .none, .none, .none, .none, .none] _
  refine ws_seq (ws_for (ts := [2]) (wi_rng1 (wa_cons (we_int (wa_nil ⟨5, rfl, by decide, by decide, ?_⟩)))))
  refine ⟨fun i δ' => ∃ x2 x3 x4 x5 x6 x7 x8 x9 x10 x11 x12 x13 x14 x15 x16 x17 x18, δ' = [.none, .bag, x2, x3, x4, x5, x6, x7, x8, x9, x10, x11, x12, x13, x14, x15, x16, x17, x18], ⟨_, _, _, _, _, _, _, _, _, _, _, _, _, _, _, _, _, rfl⟩, fun i d δ' hd hi => ?_, fun δ' hi => ?_⟩
  · obtain ⟨x2, x3, x4, x5, x6, x7, x8, x9, x10, x11, x12, x13, x14, x15, x16, x17, x18, rfl⟩ := hi
    refine wg_name ?_
    show WS K F _ [.none, .bag, .val d, x3, x4, x5, x6, x7, x8, x9, x10, x11, x12, x13, x14, x15, x16, x17, x18] _
    walk_at "rd"
    refine ⟨3, 5, 6, 9, rfl, by decide, by decide, by decide, by decide, by decide, by decide, by decide, by decide, fun lk es st many l1 l2 he m1 m2 hed s0 s1 => ?_⟩
    have l2 : lk.length ≤ 3 := l2
    have he : es.length ≤ 6 := he
    have hok : ∀ e ∈ es, okN 2 e = true := fun e h => okN_edge (hed e h)
    have hed9 : ∀ e ∈ es, edgeOk lk many 9 e := hed
    refine ws_seq (es_asg (v := .tup [.lst (lk.map D.bl), .lst es]) (ev_tup (ed_cons (ev_op (x := modD lk es st many) (ev_var rfl) ev_int (rv_ixL (atI_nat (j := 0) rfl))) (ed_cons (ev_op (x := modD lk es st many) (ev_var rfl) ev_int (rv_ixL (atI_nat (j := 1) rfl))) ed_nil)) (by simp)) (eg_tup rfl (egs_nm (egs_nm egs_nil))) ?_)
    refine ws_seq (es_par (x := .int st) (y := .int many) (ed_cons (ev_op (x := modD lk es st many) (ev_var rfl) ev_int (rv_ixL (atI_nat (j := 2) rfl))) (ed_cons (ev_op (x := modD lk es st many) (ev_var rfl) ev_int (rv_ixL (atI_nat (j := 3) rfl))) ed_nil)) ?_)
    generalize hM : mach T.a_Machine lk es st many = M
    refine ws_seq (es_asg (v := .tup [M, .int es.length]) (ev_tup (ed_cons (ev_call (ds := [modD lk es st many]) (ed_cons (ev_var rfl) ed_nil) ⟨lk, es, st, many, rfl, l1, by omega, by omega, m1, by omega, hed9, s0, s1, hM⟩) (ed_cons (ev_cb (ds := [.lst es]) (ed_cons (ev_var rfl) ed_nil) cv_lenL) ed_nil)) (by simp)) (eg_tup rfl (egs_nm (egs_nm egs_nil))) ?_)
    show WS K F _ [.none, .bag, .val d, .val (modD lk es st many), .val (.lst (lk.map D.bl)), .val (.lst es), .val (.int st), .val (.int many), .val M, .val (.int es.length), x10, x11, x12, x13, x14, x15, x16, x17, x18] _
    refine ws_seq (ws_set (we_new (wn_lc (ts := [11]) (by decide) (wi_rng1 (wa_cons (we_int (wa_nil ⟨3, rfl, by decide, by decide, ?_⟩)))))))
    refine ⟨fun i acc => i ≤ 3 ∧ ∃ l : List Int, acc = l.map D.int ∧ l.length = (if 0 < es.length then i else 0) ∧ ∀ a ∈ l, 0 ≤ a ∧ a < es.length, ⟨by omega, [], rfl, by simp, fun a h => by cases h⟩, by rw [rng_length]; decide, fun i dd acc hdd hacc => ?_, fun acc hacc => ?_⟩
    · have hi3 := (rng_get hdd).1
      obtain ⟨_, l, rfl, hl, hla⟩ := hacc
      refine wg_name ?_
      refine (et_test (ev_op (x := .int es.length) (y := .int 0) (ev_var rfl) ev_int rv_b0) rfl).wt ⟨fun hb => ?_, fun hb => ?_⟩
      · have hb : 0 < es.length := by simpa using hb
        walk_at "rd"
        refine ⟨_, rfl, by omega, by omega, fun k k0 k1 => ⟨by omega, l ++ [k], by rw [List.map_append]; rfl, by rw [List.length_append, hl, if_pos hb, if_pos hb]; rfl, fun a ha => ?_⟩⟩
        rcases List.mem_append.mp ha with ha | ha
        · exact hla a ha
        · rw [List.mem_singleton.mp ha]; exact ⟨k0, k1⟩
      · have hb : ¬ 0 < es.length := by simpa using hb
        exact ⟨by omega, l, rfl, by rw [hl, if_neg hb, if_neg hb], hla⟩
    obtain ⟨_, outs, rfl, hol, hoa⟩ := hacc
    rw [rng_length] at hol
    have hol : outs.length = if 0 < es.length then 3 else 0 := hol
    show WS K F _ [.none, .bag, .val d, .val (modD lk es st many), .val (.lst (lk.map D.bl)), .val (.lst es), .val (.int st), .val (.int many), .val M, .val (.int es.length), .val (.lst (outs.map D.int)), x11, x12, x13, x14, x15, x16, x17, x18] _
    refine ws_seq (es_set (v := .lst (keepD es outs)) (ev_to ?lc (congrArg D.lst (keep_range es outs))) ?_)
    case lc =>
      apply ev_filter (α := Nat) (xs := List.range es.length) (enc := fun i => .int (0 + (i : Int))) (f := fun i => (es[i]?).getD .non) (c := fun i => !decide ((i : Int) ∈ outs)) (ts := [13])
      · exact ei_rng1 (j := es.length) (ed_cons (ev_var rfl) ed_nil) (by omega) (by omega)
      · exact rfl
      · simp only [List.length_range]
        omega
      · intro x
        walk_at "eg"
      rotate_left 2
      · decide
      · intro x hx
        exact et_test (ev_op (ev_var rfl) (ev_var rfl) rv_ninIL) (by rw [Int.zero_add])
      · intro x hx hc
        have hx := List.mem_range.mp hx
        have hg := List.getElem?_eq_getElem hx
        refine ev_op (ev_var rfl) (ev_var rfl) (rv_ixL ?_)
        rw [Int.zero_add]
        exact atI_nat (by rw [hg]; rfl)
    show WS K F _ [.none, .bag, .val d, .val (modD lk es st many), .val (.lst (lk.map D.bl)), .val (.lst es), .val (.int st), .val (.int many), .val M, .val (.int es.length), .val (.lst (outs.map D.int)), x11, .val (.lst (keepD es outs)), x13, x14, x15, x16, x17, x18] _
    have hkl := keep_len es outs
    have hkd : ∀ e ∈ keepD es outs, edgeOk lk many 9 e := fun e h => hed9 e (keep_sub h)
    have hko : ∀ e ∈ keepD es outs, okN 2 e = true := fun e h => hok e (keep_sub h)
    subst hM
    have spB : ∀ (e2 : List D) (ats : List Int), e2.length ≤ 200 → (∀ e ∈ e2, edgeOk lk many 9 e) → (∀ a ∈ ats, 0 ≤ a ∧ a < e2.length) → sp_Machine_barred T.a_Machine [.val (mach T.a_Machine lk e2 st many), .val (.tup (ats.map D.int))] (fun d => d = mach T.a_Machine lk (keepD e2 ats) st many) X0 := fun e2 ats h1 h2 h3 => ⟨lk, e2, st, many, ats, rfl, l1, by omega, h1, m1, by omega, h2, s0, s1, h3, rfl⟩
    refine ws_seq (es_set (v := mach T.a_Machine lk (keepD es outs) st many) ?lt ?_)
    case lt =>
      by_cases hb : 0 < es.length
      · rw [if_pos hb] at hol
        match outs, hol with
        | [a, b, c], _ =>
          refine ev_if (b := true) (et_test (ev_op (x := .int es.length) (y := .int 0) (ev_var rfl) ev_int rv_b0) (congrArg D.bl (by simpa using hb))) (if_T rfl ?_)
          exact ev_methR (ds := [.int a, .int b, .int c]) (ev_var rfl) (by walk_at "lk") (ed_cons (ev_op (x := .lst [.int a, .int b, .int c]) (ev_var rfl) ev_int (rv_ixL (atI_nat (j := 0) rfl))) (ed_cons (ev_op (x := .lst [.int a, .int b, .int c]) (ev_var rfl) ev_int (rv_ixL (atI_nat (j := 1) rfl))) (ed_cons (ev_op (x := .lst [.int a, .int b, .int c]) (ev_var rfl) ev_int (rv_ixL (atI_nat (j := 2) rfl))) ed_nil))) (by simp) (spB es [a, b, c] (by omega) hed9 hoa)
      · rw [if_neg hb] at hol
        match outs, hol with
        | [], _ =>
          refine ev_if (b := false) (et_test (ev_op (x := .int es.length) (y := .int 0) (ev_var rfl) ev_int rv_b0) (congrArg D.bl (by simpa using hb))) (if_F rfl ?_)
          exact ev_methR (ds := []) (ev_var rfl) (by walk_at "lk") ed_nil (by simp) (spB es [] (by omega) hed9 (fun a h => by cases h))
    show WS K F _ [.none, .bag, .val d, .val (modD lk es st many), .val (.lst (lk.map D.bl)), .val (.lst es), .val (.int st), .val (.int many), .val (mach T.a_Machine lk es st many), .val (.int es.length), .val (.lst (outs.map D.int)), x11, .val (.lst (keepD es outs)), x13, .val (mach T.a_Machine lk (keepD es outs) st many), x15, x16, x17, x18] _
    refine ws_seq (es_if (b := false) (et_or (a := false) (et_test (ev_op (ev_var rfl) (ev_makeK (ds := [.lst (lk.map D.bl), .lst (keepD es outs)]) (es := [.int (st), .int many]) (gD := fun us ws => atL us 0 ++ atL us 1 ++ atL ws 0 ++ atL ws 1) (ed_cons (ev_var rfl) (ed_cons (ev_var rfl) ed_nil)) (ed_cons (ev_var rfl) (ed_cons (ev_var rfl) ed_nil)) rfl rfl (fun G v vs zs ds es hv hz => ⟨_, rfl, DVs.append (DVs.append (DVs.append (dvs_atL hv 0) (dvs_atL hv 1)) (dvs_atL hz 0)) (dvs_atL hz 1)⟩) ⟨lk, keepD es outs, st, .int many, many, many, rfl, l1, by omega, by omega, .inl ⟨rfl, rfl, m1, by omega⟩, hkd, s0, s1, rfl⟩) (rv_neM (Txt.cl_Machine _) (Txt.ty_Machine _) hko)) rfl) (tor_F rfl (et_test (ev_op (x := .int many) (y := .int many) (ev_prop (ev_var rfl) ⟨_, _, _, _, rfl, rfl⟩) (ev_var rfl) rv_neI) (congrArg D.bl (by simp))))) (.inr (.inl ⟨rfl, ws_next ?_⟩)))
    have bar0 := spB es [] (by omega) hed9 (fun a h => by cases h)
    rw [keep_nil] at bar0
    refine ws_seq (es_if (b := false) (et_test (ev_op (x := mach T.a_Machine lk es st many) (ev_methR (ds := []) (ev_var rfl) (by walk_at "lk") ed_nil (by simp) bar0) (ev_var rfl) (rv_neM (Txt.cl_Machine _) (Txt.ty_Machine _) hok)) rfl) (.inr (.inl ⟨rfl, ws_next ?_⟩)))
    have dd : ∀ {e2 : List D}, (∀ e ∈ e2, edgeOk lk many 9 e) → e2.length ≤ 200 → dle 3 (.lst e2) = true := fun h1 h2 => dle_edges h1 (by omega)
    refine ws_seq (es_for (ts := [13]) (ei_rng1 (j := es.length) (ed_cons (ev_var rfl) ed_nil) (by omega) (by omega)) (fun i δ' => ∃ x13, δ' = [.none, .bag, .val d, .val (modD lk es st many), .val (.lst (lk.map D.bl)), .val (.lst es), .val (.int st), .val (.int many), .val (mach T.a_Machine lk es st many), .val (.int es.length), .val (.lst (outs.map D.int)), x11, .val (.lst (keepD es outs)), x13, .val (mach T.a_Machine lk (keepD es outs) st many), x15, x16, x17, x18]) ⟨_, rfl⟩ (fun i3 d3 δ' hd3 hi => ?_) (fun δ' hi => ?_))
    · obtain ⟨x13, rfl⟩ := hi
      obtain ⟨hil, rfl⟩ := rng_get hd3
      have hil : i3 < es.length := by simpa using hil
      rw [Int.zero_add]
      refine wg_name ?_
      have b1 := spB es [(i3 : Int)] (by omega) hed9 (fun a h => by rw [List.mem_singleton.mp h]; omega)
      rw [keep_one hil] at b1
      have hd1 : ∀ e ∈ es.take i3 ++ es.drop (i3 + 1), edgeOk lk many 9 e := fun e h => by
        rcases List.mem_append.mp h with h | h
        · exact hed9 e (List.mem_of_mem_take h)
        · exact hed9 e (List.mem_of_mem_drop h)
      have hl1 : (es.take i3 ++ es.drop (i3 + 1)).length ≤ 200 := by rw [List.length_append, List.length_take, List.length_drop]; omega
      refine es_if (b := false) (et_not (b := true) (et_B (ev_call (ds := [.lst (es.take i3 ++ es.drop (i3 + 1)), .lst (es.take i3 ++ es.drop (i3 + 1))]) (ed_cons (ev_meth (ds := []) (ev_methR (ds := [.int i3]) (ev_var rfl) (by walk_at "lk") (ed_cons (ev_var rfl) ed_nil) (by simp) b1) (by walk_at "lk") ed_nil ⟨_, _, _, _, rfl, rfl⟩) (ed_cons (ev_op (x := .lst (es.take i3)) (y := .lst (es.drop (i3 + 1))) (ev_to (ev_sl (ev_var rfl) eo_no (eo_part (ev_var rfl) rfl) sv_L) (congrArg D.lst (cut_take es i3))) (ev_to (ev_sl (ev_var rfl) (eo_part (ev_op (ev_var rfl) ev_int rv_add) rfl) eo_no sv_L) (congrArg D.lst (cut_drop es (i3 + 1)))) (rv_cat (by rw [List.length_take, List.length_drop]; omega))) ed_nil)) ⟨_, rfl, dle_up1 3 _ (dd hd1 hl1), rfl⟩) rfl)) (.inr (.inl ⟨rfl, ws_next ?_⟩))
      exact ⟨_, rfl⟩
    obtain ⟨x13, rfl⟩ := hi
    show WS K F _ [.none, .bag, .val d, .val (modD lk es st many), .val (.lst (lk.map D.bl)), .val (.lst es), .val (.int st), .val (.int many), .val (mach T.a_Machine lk es st many), .val (.int es.length), .val (.lst (outs.map D.int)), x11, .val (.lst (keepD es outs)), x13, .val (mach T.a_Machine lk (keepD es outs) st many), x15, x16, x17, x18] _
    walk_at "rd"
    refine ⟨_, rfl, by omega, by omega, fun f0 f00 f01 => ?_⟩
    walk_at "rd"
    refine ⟨lk, 9, rfl, l1, by omega, by decide, by decide, fun dd0 hdd0 => ?_⟩
    walk_at "rd"
    refine ⟨_, rfl, by omega, by omega, fun f1 f10 f11 => ?_⟩
    walk_at "rd"
    refine ⟨[.str (sw ""), .str (sw "late")], rfl, by simp, ?_⟩
    refine wa_nil (.inl ⟨_, rfl, by simp, by simp, fun d1 hd1 => ?_⟩)
    have hlb : ∃ lb : Str, d1 = .str lb ∧ (isName (.str lb) = true ∨ lb = sw "") ∧ lb.length ≤ 6 := by
      simp only [List.mem_cons, List.not_mem_nil, or_false] at hd1
      rcases hd1 with rfl | rfl
      · exact ⟨_, rfl, .inr rfl, by decide +kernel⟩
      · exact ⟨_, rfl, .inl (by decide +kernel), by decide +kernel⟩
    obtain ⟨lb, rfl, lb1, lb2⟩ := hlb
    refine wa_nil ⟨[.int f0, dd0, .int f1, .str lb], rfl, by simp, ?_⟩
    have hfr : edgeOk lk many 9 (.tup [.int f0, dd0, .int f1, .str lb]) := ⟨f0, f1, dd0, lb, rfl, f00, f01, f10, f11, hdd0, lb1, lb2⟩
    generalize D.tup [.int f0, dd0, .int f1, .str lb] = fr at hfr ⊢
    show WS K F _ [.none, .bag, .val d, .val (modD lk es st many), .val (.lst (lk.map D.bl)), .val (.lst es), .val (.int st), .val (.int many), .val (mach T.a_Machine lk es st many), .val (.int es.length), .val (.lst (outs.map D.int)), x11, .val (.lst (keepD es outs)), x13, .val (mach T.a_Machine lk (keepD es outs) st many), .val fr, x16, x17, x18] _
    have hed1 : ∀ e ∈ es ++ [fr], edgeOk lk many 9 e := fun e h => by
      rcases List.mem_append.mp h with h | h
      · exact hed9 e h
      · rw [List.mem_singleton.mp h]; exact hfr
    have hed2 : ∀ e ∈ (es ++ [fr]) ++ [fr], edgeOk lk many 9 e := fun e h => by
      rcases List.mem_append.mp h with h | h
      · exact hed1 e h
      · rw [List.mem_singleton.mp h]; exact hfr
    have hl1 : (es ++ [fr]).length = es.length + 1 := by simp
    have hl2 : ((es ++ [fr]) ++ [fr]).length = es.length + 2 := by simp
    have spW : ∀ e2 : List D, e2.length < 200 → (∀ e ∈ e2, edgeOk lk many 9 e) → sp_Machine_with_edge T.a_Machine [.val (mach T.a_Machine lk e2 st many), .val fr] (fun d => d = mach T.a_Machine lk (e2 ++ [fr]) st many) X0 := fun e2 h1 h2 => ⟨lk, e2, st, many, fr, rfl, l1, by omega, h1, m1, by omega, h2, hfr, s0, s1, rfl⟩
    refine ws_seq (es_set (v := mach T.a_Machine lk (es ++ [fr]) st many) (ev_methN (ds := []) (es := [fr]) (gD := fun h k => [h.getD 0 .non, k.getD 0 .non]) (ev_var rfl) (by walk_at "lk") ed_nil (ed_cons (ev_var rfl) ed_nil) rfl rfl (by walk_at "kw") (spW es (by omega) hed9)) ?_)
    show WS K F _ [.none, .bag, .val d, .val (modD lk es st many), .val (.lst (lk.map D.bl)), .val (.lst es), .val (.int st), .val (.int many), .val (mach T.a_Machine lk es st many), .val (.int es.length), .val (.lst (outs.map D.int)), x11, .val (.lst (keepD es outs)), x13, .val (mach T.a_Machine lk (keepD es outs) st many), .val fr, .val (mach T.a_Machine lk (es ++ [fr]) st many), x17, x18] _
    have dl4 : dle 4 (.lst [.lst (es ++ [fr]), .int many, .int st]) = true := by
      rw [dle, List.all_cons, dle_edges hed1 (by omega)]
      rfl
    refine ws_seq (es_if (b := false) (et_not (b := true) (et_B (ev_call (ds := [.lst [.lst (es ++ [fr]), .int many, .int st], .lst [.lst (es ++ [fr]), .int many, .int st]]) (ed_cons (ev_lst (ed_cons (ev_meth (ds := []) (ev_var rfl) (by walk_at "lk") ed_nil ⟨_, _, _, _, rfl, rfl⟩) (ed_cons (ev_prop (ev_var rfl) ⟨_, _, _, _, rfl, rfl⟩) (ed_cons (ev_prop (ev_var rfl) ⟨_, _, _, _, rfl, rfl⟩) ed_nil))) (by simp)) (ed_cons (ev_lst (ed_cons (ev_op (x := .lst es) (y := .lst [fr]) (ev_var rfl) (ev_lst (ed_cons (ev_var rfl) ed_nil) (by simp)) (rv_cat (by rw [List.length_singleton]; omega))) (ed_cons (ev_var rfl) (ed_cons (ev_var rfl) ed_nil))) (by simp)) ed_nil)) ⟨_, rfl, dl4, rfl⟩) rfl)) (.inr (.inl ⟨rfl, ws_next ?_⟩)))
    refine ws_seq (es_set (v := .lst ((es ++ [fr]) ++ [fr])) (ev_meth (ds := []) (ev_meth (ds := [fr]) (ev_meth (ds := [fr]) (ev_var rfl) (by walk_at "lk") (ed_cons (ev_var rfl) ed_nil) (spW es (by omega) hed9)) (by walk_at "lk") (ed_cons (ev_var rfl) ed_nil) (spW (es ++ [fr]) (by omega) hed1)) (by walk_at "lk") ed_nil ⟨_, _, _, _, rfl, rfl⟩) ?_)
    show WS K F _ [.none, .bag, .val d, .val (modD lk es st many), .val (.lst (lk.map D.bl)), .val (.lst es), .val (.int st), .val (.int many), .val (mach T.a_Machine lk es st many), .val (.int es.length), .val (.lst (outs.map D.int)), x11, .val (.lst (keepD es outs)), x13, .val (mach T.a_Machine lk (keepD es outs) st many), .val fr, .val (mach T.a_Machine lk (es ++ [fr]) st many), .val (.lst ((es ++ [fr]) ++ [fr])), x18] _
    have bl := spB (es ++ [fr]) [(es.length : Int)] (by omega) hed1 (fun a h => by rw [List.mem_singleton.mp h]; omega)
    rw [keep_last] at bl
    have rep2 : RV K F (rMulA K) (.lst [fr]) (.int 2) (.lst [fr, fr]) := rd_rep (by decide) (by simp) rfl (by decide)
    refine ws_seq (es_if (b := false) (et_or (a := false) (et_test (ev_op (x := mach T.a_Machine lk es st many) (ev_methR (ds := [.int es.length]) (ev_var rfl) (by walk_at "lk") (ed_cons (ev_var rfl) ed_nil) (by simp) bl) (ev_var rfl) (rv_neM (Txt.cl_Machine _) (Txt.ty_Machine _) hok)) rfl) (tor_F rfl (et_not (b := true) (et_B (ev_call (ds := [.lst ((es ++ [fr]) ++ [fr]), .lst ((es ++ [fr]) ++ [fr])]) (ed_cons (ev_var rfl) (ed_cons (ev_to (ev_op (x := .lst es) (y := .lst [fr, fr]) (ev_var rfl) (ev_op (ev_lst (ed_cons (ev_var rfl) ed_nil) (by simp)) ev_int rep2) (rv_cat (by simp; omega))) (by simp)) ed_nil)) ⟨_, rfl, dle_up1 3 _ (dle_edges hed2 (by omega)), rfl⟩) rfl)))) (.inr (.inl ⟨rfl, ws_next ?_⟩)))
    walk_at "rd"
    refine ⟨_, rfl, by omega, by omega, fun nd nd0 nd1 => ?_⟩
    show WS K F _ [.none, .bag, .val d, .val (modD lk es st many), .val (.lst (lk.map D.bl)), .val (.lst es), .val (.int st), .val (.int many), .val (mach T.a_Machine lk es st many), .val (.int es.length), .val (.lst (outs.map D.int)), x11, .val (.lst (keepD es outs)), x13, .val (mach T.a_Machine lk (keepD es outs) st many), .val fr, .val (mach T.a_Machine lk (es ++ [fr]) st many), .val (.lst ((es ++ [fr]) ++ [fr])), .val (.int nd)] _
    have spG : ∀ s : Int, 0 ≤ s → s < many → sp_Machine_begun T.a_Machine [.val (mach T.a_Machine lk es st many), .val (.int s)] (fun d => d = mach T.a_Machine lk es s many) X0 := fun s h0 h1 => ⟨lk, es, st, s, many, rfl, l1, by omega, by omega, m1, by omega, hed9, h0, h1, rfl⟩
    refine ws_seq (es_if (b := false) (et_test (ev_op (x := mach T.a_Machine lk es nd many) (ev_meth (ds := [.int nd]) (ev_var rfl) (by walk_at "lk") (ed_cons (ev_var rfl) ed_nil) (spG nd nd0 nd1)) (ev_makeK (ds := [.lst (lk.map D.bl), .lst (es)]) (es := [.int (nd), .int many]) (gD := fun us ws => atL us 0 ++ atL us 1 ++ atL ws 0 ++ atL ws 1) (ed_cons (ev_var rfl) (ed_cons (ev_var rfl) ed_nil)) (ed_cons (ev_var rfl) (ed_cons (ev_var rfl) ed_nil)) rfl rfl (fun G v vs zs ds es hv hz => ⟨_, rfl, DVs.append (DVs.append (DVs.append (dvs_atL hv 0) (dvs_atL hv 1)) (dvs_atL hz 0)) (dvs_atL hz 1)⟩) ⟨lk, es, nd, .int many, many, many, rfl, l1, by omega, by omega, .inl ⟨rfl, rfl, m1, by omega⟩, hed9, nd0, nd1, rfl⟩) (rv_neM (Txt.cl_Machine _) (Txt.ty_Machine _) hok)) rfl) (.inr (.inl ⟨rfl, ws_next ?_⟩)))
    refine ws_seq (es_if (b := false) (et_test (ev_op (x := mach T.a_Machine lk es st many) (ev_methN (ds := []) (es := [.int st]) (gD := fun h k => [h.getD 0 .non, k.getD 0 .non]) (ev_var rfl) (by walk_at "lk") ed_nil (ed_cons (ev_var rfl) ed_nil) rfl rfl (by walk_at "kw") (spG st s0 s1)) (ev_var rfl) (rv_neM (Txt.cl_Machine _) (Txt.ty_Machine _) hok)) rfl) (.inr (.inl ⟨rfl, ws_next ?_⟩)))
    have dl5 : dle 4 (.lst [.lst es, .int st, .int many, .lst (lk.map D.bl)]) = true := by
      have h1 : dle 3 (.lst (lk.map D.bl)) = true := by
        rw [dle, Bool.and_eq_true, decide_eq_true_eq, List.length_map, List.all_map, List.all_eq_true]
        exact ⟨by omega, fun x _ => rfl⟩
      rw [dle, List.all_cons, List.all_cons, List.all_cons, List.all_cons, dle_edges hed9 (by omega), h1]
      rfl
    refine es_if (b := false) (et_not (b := true) (et_B (ev_call (ds := [.lst [.lst es, .int st, .int many, .lst (lk.map D.bl)], .lst [.lst es, .int st, .int many, .lst (lk.map D.bl)]]) (ed_cons (ev_lst (ed_cons (ev_meth (ds := []) (ev_var rfl) (by walk_at "lk") ed_nil ⟨_, _, _, _, rfl, rfl⟩) (ed_cons (ev_prop (ev_var rfl) ⟨_, _, _, _, rfl, rfl⟩) (ed_cons (ev_prop (ev_var rfl) ⟨_, _, _, _, rfl, rfl⟩) (ed_cons (ev_meth (ds := []) (ev_var rfl) (by walk_at "lk") ed_nil ⟨_, _, _, _, rfl, rfl⟩) ed_nil)))) (by simp)) (ed_cons (ev_lst (ed_cons (ev_var rfl) (ed_cons (ev_var rfl) (ed_cons (ev_var rfl) (ed_cons (ev_var rfl) ed_nil)))) (by simp)) ed_nil)) ⟨_, rfl, dl5, rfl⟩) rfl)) (.inr (.inl ⟨rfl, ws_next ?_⟩))
    exact ⟨_, _, _, _, _, _, _, _, _, _, _, _, _, _, _, _, _, rfl⟩
  · obtain ⟨x2, x3, x4, x5, x6, x7, x8, x9, x10, x11, x12, x13, x14, x15, x16, x17, x18, rfl⟩ := hi
    exact es_ret ev_bl rfl

end
end
theorem all_mk {l : PySem.W.OpenLaw} {w : World} {K : PySem.W.Frag} {h : Heap} {mg : Str → Option Value} {fa : Addr} (X : K.In h) (G : h.Ns mainGlobals mg) (hfa : mg "law" = some (.ref fa))
    {f_Machine : Addr}
    {tk_Machine_MOST_NODES : Tok}
    {tk_Machine_MOST_EDGES : Tok}
    {f_is_number : Addr} {oc_is_number kV_is_number dc_is_number pm_is_number cd_is_number ct_is_number : Value} {od_is_number an_is_number : Option Addr} {sl_is_number : Array (Option Value)}
    {dT_is_number : Addr} {dc2_is_number : Value} {dd_is_number : Option Addr} {di_is_number : Array Value} {dn_is_number : Nat} {ds_is_number : Array (Option Value)}
    {f_is_listed : Addr} {oc_is_listed kV_is_listed dc_is_listed pm_is_listed cd_is_listed ct_is_listed : Value} {od_is_listed an_is_listed : Option Addr} {sl_is_listed : Array (Option Value)}
    {f_is_name : Addr} {oc_is_name kV_is_name dc_is_name pm_is_name cd_is_name ct_is_name : Value} {od_is_name an_is_name : Option Addr} {sl_is_name : Array (Option Value)}
    {f_is_deed : Addr} {oc_is_deed kV_is_deed dc_is_deed pm_is_deed cd_is_deed ct_is_deed : Value} {od_is_deed an_is_deed : Option Addr} {sl_is_deed : Array (Option Value)}
    {f_is_edge : Addr} {oc_is_edge kV_is_edge dc_is_edge pm_is_edge cd_is_edge ct_is_edge : Value} {od_is_edge an_is_edge : Option Addr} {sl_is_edge : Array (Option Value)}
    {f_is_leaks : Addr} {oc_is_leaks kV_is_leaks dc_is_leaks pm_is_leaks cd_is_leaks ct_is_leaks : Value} {od_is_leaks an_is_leaks : Option Addr} {sl_is_leaks : Array (Option Value)}
    {f_Machine_init : Addr} {oc_Machine_init dc_Machine_init pm_Machine_init cd_Machine_init ct_Machine_init : Value} {od_Machine_init an_Machine_init : Option Addr} {sl_Machine_init : Array (Option Value)}
    {kD_Machine_init : Addr}
    {dkw_Machine_init_0 : Tok}
    {f_Machine_nodes : Addr} {oc_Machine_nodes kV_Machine_nodes dc_Machine_nodes pm_Machine_nodes cd_Machine_nodes ct_Machine_nodes : Value} {od_Machine_nodes an_Machine_nodes : Option Addr} {sl_Machine_nodes : Array (Option Value)}
    {pr_Machine_nodes : Addr} {pe_Machine_nodes : List Value}
    {f_Machine_start : Addr} {oc_Machine_start kV_Machine_start dc_Machine_start pm_Machine_start cd_Machine_start ct_Machine_start : Value} {od_Machine_start an_Machine_start : Option Addr} {sl_Machine_start : Array (Option Value)}
    {pr_Machine_start : Addr} {pe_Machine_start : List Value}
    {f_Machine_leaks : Addr} {oc_Machine_leaks kV_Machine_leaks dc_Machine_leaks pm_Machine_leaks cd_Machine_leaks ct_Machine_leaks : Value} {od_Machine_leaks an_Machine_leaks : Option Addr} {sl_Machine_leaks : Array (Option Value)}
    {f_Machine_edges : Addr} {oc_Machine_edges kV_Machine_edges dc_Machine_edges pm_Machine_edges cd_Machine_edges ct_Machine_edges : Value} {od_Machine_edges an_Machine_edges : Option Addr} {sl_Machine_edges : Array (Option Value)}
    {f_Machine_check_edge : Addr} {oc_Machine_check_edge kV_Machine_check_edge dc_Machine_check_edge pm_Machine_check_edge cd_Machine_check_edge ct_Machine_check_edge : Value} {od_Machine_check_edge an_Machine_check_edge : Option Addr} {sl_Machine_check_edge : Array (Option Value)}
    {f_Machine_check_node : Addr} {oc_Machine_check_node kV_Machine_check_node dc_Machine_check_node pm_Machine_check_node cd_Machine_check_node ct_Machine_check_node : Value} {od_Machine_check_node an_Machine_check_node : Option Addr} {sl_Machine_check_node : Array (Option Value)}
    {f_Machine_content : Addr} {oc_Machine_content kV_Machine_content dc_Machine_content pm_Machine_content cd_Machine_content ct_Machine_content : Value} {od_Machine_content an_Machine_content : Option Addr} {sl_Machine_content : Array (Option Value)}
    {f_Machine_eq : Addr} {oc_Machine_eq kV_Machine_eq dc_Machine_eq pm_Machine_eq cd_Machine_eq ct_Machine_eq : Value} {od_Machine_eq an_Machine_eq : Option Addr} {sl_Machine_eq : Array (Option Value)}
    {f_Machine_with_edges : Addr} {oc_Machine_with_edges kV_Machine_with_edges dc_Machine_with_edges pm_Machine_with_edges cd_Machine_with_edges ct_Machine_with_edges : Value} {od_Machine_with_edges an_Machine_with_edges : Option Addr} {sl_Machine_with_edges : Array (Option Value)}
    {f_Machine_barred : Addr} {oc_Machine_barred kV_Machine_barred dc_Machine_barred pm_Machine_barred cd_Machine_barred ct_Machine_barred : Value} {od_Machine_barred an_Machine_barred : Option Addr} {sl_Machine_barred : Array (Option Value)}
    {f_Machine_with_edge : Addr} {oc_Machine_with_edge kV_Machine_with_edge dc_Machine_with_edge pm_Machine_with_edge cd_Machine_with_edge ct_Machine_with_edge : Value} {od_Machine_with_edge an_Machine_with_edge : Option Addr} {sl_Machine_with_edge : Array (Option Value)}
    {f_Machine_begun : Addr} {oc_Machine_begun kV_Machine_begun dc_Machine_begun pm_Machine_begun cd_Machine_begun ct_Machine_begun : Value} {od_Machine_begun an_Machine_begun : Option Addr} {sl_Machine_begun : Array (Option Value)}
    {f_law_bag : Addr} {oc_law_bag kV_law_bag dc_law_bag pm_law_bag cd_law_bag ct_law_bag : Value} {od_law_bag an_law_bag : Option Addr} {sl_law_bag : Array (Option Value)}
    {f_law_pull : Addr} {oc_law_pull kV_law_pull dc_law_pull pm_law_pull cd_law_pull ct_law_pull : Value} {od_law_pull an_law_pull : Option Addr} {sl_law_pull : Array (Option Value)}
    {f_law_pick : Addr} {oc_law_pick kV_law_pick dc_law_pick pm_law_pick cd_law_pick ct_law_pick : Value} {od_law_pick an_law_pick : Option Addr} {sl_law_pick : Array (Option Value)}
    {f_law_same : Addr} {oc_law_same kV_law_same dc_law_same pm_law_same cd_law_same ct_law_same : Value} {od_law_same an_law_same : Option Addr} {sl_law_same : Array (Option Value)}
    {f_law_leaks : Addr} {oc_law_leaks kV_law_leaks dc_law_leaks pm_law_leaks cd_law_leaks ct_law_leaks : Value} {od_law_leaks an_law_leaks : Option Addr} {sl_law_leaks : Array (Option Value)}
    {f_law_deed : Addr} {oc_law_deed kV_law_deed dc_law_deed pm_law_deed cd_law_deed ct_law_deed : Value} {od_law_deed an_law_deed : Option Addr} {sl_law_deed : Array (Option Value)}
    {f_law_model : Addr} {oc_law_model kV_law_model dc_law_model pm_law_model cd_law_model ct_law_model : Value} {od_law_model an_law_model : Option Addr} {sl_law_model : Array (Option Value)}
    {f_law_made : Addr} {oc_law_made kV_law_made dc_law_made pm_law_made cd_law_made ct_law_made : Value} {od_law_made an_law_made : Option Addr} {sl_law_made : Array (Option Value)}
    {f_law : Addr} {oc_law kV_law dc_law pm_law cd_law ct_law : Value} {od_law an_law : Option Addr} {sl_law : Array (Option Value)}
    {tk_MOST_WIDTH : Tok}
    {tk_SMALL : Tok}
    {tk_DIGITS : Tok}
    {tk_MOST_NAME : Tok}
    {tk_MOST_FIGURES : Tok}
    {tk_MOST_STEP : Tok}
    {f_LENGTHS : Addr} {es_LENGTHS : Array DictEntry} {en_LENGTHS : Nat}
    (h1 : PySem.W.nsIn K mainGlobals "Machine" = some (some (.ref f_Machine)))
    (h2 : PySem.W.plainGet K f_Machine Str.empty = true)
    (h3 : PySem.W.hasDictIn K f_Machine = true)
    (h4 : PySem.W.plainOver K f_Machine = true)
    (h5 : PySem.W.findIn K (.ref f_Machine) "__setattr__" = some (some (.builtin "object.__setattr__")))
    (h6 : PySem.W.findIn K (.ref f_Machine) "own_leaks" = some none)
    (h7 : PySem.W.findIn K (.ref f_Machine) "own_edges" = some none)
    (h8 : PySem.W.findIn K (.ref f_Machine) "own_start" = some none)
    (h9 : PySem.W.findIn K (.ref f_Machine) "own_nodes" = some none)
    (h10 : PySem.W.findIn K (.ref f_Machine) "__class__" = some (some (.builtin "object.__class__")))
    (h11 : PySem.W.specialIn K (.builtin "object.__class__") "__get__" = some (some (.builtin "getset_descriptor.__get__")))
    (h12 : PySem.W.takesIn K (.builtin "object.__class__") = some true)
    (h13 : PySem.W.mroIn K f_Machine (.type "object") = some true)
    (h14 : PySem.W.findIn K (.ref f_Machine) "__eq__" = some (some (.ref f_Machine_eq)))
    (h15 : PySem.W.isFn K (.ref f_Machine_eq) = true)
    (h16 : PySem.W.findIn K (.ref f_Machine) "__ne__" = some (some (.builtin "object.__ne__")))
    (h17 : PySem.W.mroIn K f_Machine (.type "object") = some true)
    (h18 : PySem.W.readsIn K f_Machine (.type "type") = true)
    (h19 : PySem.W.specialIn K (.ref f_Machine) "__getattribute__" = some (some (.builtin "type.__getattribute__")))
    (h20 : PySem.W.findCls K (.ref f_Machine) (.type "type") "MOST_NODES" = some (.val (.int 100 tk_Machine_MOST_NODES)))
    (h21 : PySem.W.findCls K (.ref f_Machine) (.type "type") "MOST_EDGES" = some (.val (.int 200 tk_Machine_MOST_EDGES)))
    (h22 : PySem.W.nsIn K mainGlobals "is_number" = some (some (.ref f_is_number)))
    (h23 : K.lookup f_is_number = some ⟨oc_is_number, od_is_number, .func (PySem.W.fnOf "is_number" "is_number" (defArgs st_is_number) (defBody st_is_number) (defScope st_is_number) (.ref dT_is_number) kV_is_number dc_is_number pm_is_number an_is_number cd_is_number ct_is_number), sl_is_number⟩)
    (h24 : PySem.W.codeIn K cd_is_number "is_number" = true)
    (h25 : PySem.W.keepIn K (.ref f_is_number) = true)
    (h26 : K.lookup dT_is_number = some ⟨dc2_is_number, dd_is_number, .seq di_is_number dn_is_number, ds_is_number⟩)
    (h27 : di_is_number.toList = [(.none)])
    (h28 : PySem.W.nsIn K mainGlobals "is_listed" = some (some (.ref f_is_listed)))
    (h29 : K.lookup f_is_listed = some ⟨oc_is_listed, od_is_listed, .func (PySem.W.fnOf "is_listed" "is_listed" (defArgs st_is_listed) (defBody st_is_listed) (defScope st_is_listed) .none kV_is_listed dc_is_listed pm_is_listed an_is_listed cd_is_listed ct_is_listed), sl_is_listed⟩)
    (h30 : PySem.W.codeIn K cd_is_listed "is_listed" = true)
    (h31 : PySem.W.keepIn K (.ref f_is_listed) = true)
    (h32 : PySem.W.nsIn K mainGlobals "is_name" = some (some (.ref f_is_name)))
    (h33 : K.lookup f_is_name = some ⟨oc_is_name, od_is_name, .func (PySem.W.fnOf "is_name" "is_name" (defArgs st_is_name) (defBody st_is_name) (defScope st_is_name) .none kV_is_name dc_is_name pm_is_name an_is_name cd_is_name ct_is_name), sl_is_name⟩)
    (h34 : PySem.W.codeIn K cd_is_name "is_name" = true)
    (h35 : PySem.W.keepIn K (.ref f_is_name) = true)
    (h36 : PySem.W.nsIn K mainGlobals "is_deed" = some (some (.ref f_is_deed)))
    (h37 : K.lookup f_is_deed = some ⟨oc_is_deed, od_is_deed, .func (PySem.W.fnOf "is_deed" "is_deed" (defArgs st_is_deed) (defBody st_is_deed) (defScope st_is_deed) .none kV_is_deed dc_is_deed pm_is_deed an_is_deed cd_is_deed ct_is_deed), sl_is_deed⟩)
    (h38 : PySem.W.codeIn K cd_is_deed "is_deed" = true)
    (h39 : PySem.W.keepIn K (.ref f_is_deed) = true)
    (h40 : PySem.W.nsIn K mainGlobals "is_edge" = some (some (.ref f_is_edge)))
    (h41 : K.lookup f_is_edge = some ⟨oc_is_edge, od_is_edge, .func (PySem.W.fnOf "is_edge" "is_edge" (defArgs st_is_edge) (defBody st_is_edge) (defScope st_is_edge) .none kV_is_edge dc_is_edge pm_is_edge an_is_edge cd_is_edge ct_is_edge), sl_is_edge⟩)
    (h42 : PySem.W.codeIn K cd_is_edge "is_edge" = true)
    (h43 : PySem.W.keepIn K (.ref f_is_edge) = true)
    (h44 : PySem.W.nsIn K mainGlobals "is_leaks" = some (some (.ref f_is_leaks)))
    (h45 : K.lookup f_is_leaks = some ⟨oc_is_leaks, od_is_leaks, .func (PySem.W.fnOf "is_leaks" "is_leaks" (defArgs st_is_leaks) (defBody st_is_leaks) (defScope st_is_leaks) .none kV_is_leaks dc_is_leaks pm_is_leaks an_is_leaks cd_is_leaks ct_is_leaks), sl_is_leaks⟩)
    (h46 : PySem.W.codeIn K cd_is_leaks "is_leaks" = true)
    (h47 : PySem.W.keepIn K (.ref f_is_leaks) = true)
    (h48 : PySem.W.findIn K (.ref f_Machine) "__init__" = some (some (.ref f_Machine_init)))
    (h49 : PySem.W.isFn K (.ref f_Machine_init) = true)
    (h50 : PySem.W.makesIn K f_Machine = true)
    (h51 : PySem.W.keepIn K (.ref f_Machine) = true)
    (h52 : K.lookup f_Machine_init = some ⟨oc_Machine_init, od_Machine_init, .func (PySem.W.fnOf "__init__" "Machine.__init__" (defArgs st_Machine_init) (defBody st_Machine_init) (defScope st_Machine_init) .none (.ref kD_Machine_init) dc_Machine_init pm_Machine_init an_Machine_init cd_Machine_init ct_Machine_init), sl_Machine_init⟩)
    (h53 : PySem.W.codeIn K cd_Machine_init "Machine.__init__" = true)
    (h54 : PySem.W.keepIn K (.ref f_Machine_init) = true)
    (h55 : PySem.W.nsIn K kD_Machine_init "start" = some (some (.int 0 dkw_Machine_init_0)))
    (h56 : PySem.W.nsIn K kD_Machine_init "nodes" = some (some (.none)))
    (h57 : PySem.W.findIn K (.ref f_Machine) "nodes" = some (some (.ref pr_Machine_nodes)))
    (h58 : PySem.W.specialIn K (.ref pr_Machine_nodes) "__get__" = some (some (.builtin "property.__get__")))
    (h59 : PySem.W.takesIn K (.ref pr_Machine_nodes) = some true)
    (h60 : PySem.W.recIn K pr_Machine_nodes "property" = some (.ref f_Machine_nodes :: pe_Machine_nodes))
    (h61 : K.lookup f_Machine_nodes = some ⟨oc_Machine_nodes, od_Machine_nodes, .func (PySem.W.fnOf "nodes" "Machine.nodes" (defArgs st_Machine_nodes) (defBody st_Machine_nodes) (defScope st_Machine_nodes) .none kV_Machine_nodes dc_Machine_nodes pm_Machine_nodes an_Machine_nodes cd_Machine_nodes ct_Machine_nodes), sl_Machine_nodes⟩)
    (h62 : PySem.W.codeIn K cd_Machine_nodes "Machine.nodes" = true)
    (h63 : PySem.W.keepIn K (.ref f_Machine_nodes) = true)
    (h64 : PySem.W.findIn K (.ref f_Machine) "start" = some (some (.ref pr_Machine_start)))
    (h65 : PySem.W.specialIn K (.ref pr_Machine_start) "__get__" = some (some (.builtin "property.__get__")))
    (h66 : PySem.W.takesIn K (.ref pr_Machine_start) = some true)
    (h67 : PySem.W.recIn K pr_Machine_start "property" = some (.ref f_Machine_start :: pe_Machine_start))
    (h68 : K.lookup f_Machine_start = some ⟨oc_Machine_start, od_Machine_start, .func (PySem.W.fnOf "start" "Machine.start" (defArgs st_Machine_start) (defBody st_Machine_start) (defScope st_Machine_start) .none kV_Machine_start dc_Machine_start pm_Machine_start an_Machine_start cd_Machine_start ct_Machine_start), sl_Machine_start⟩)
    (h69 : PySem.W.codeIn K cd_Machine_start "Machine.start" = true)
    (h70 : PySem.W.keepIn K (.ref f_Machine_start) = true)
    (h71 : PySem.W.findIn K (.ref f_Machine) "leaks" = some (some (.ref f_Machine_leaks)))
    (h72 : PySem.W.isFn K (.ref f_Machine_leaks) = true)
    (h73 : K.lookup f_Machine_leaks = some ⟨oc_Machine_leaks, od_Machine_leaks, .func (PySem.W.fnOf "leaks" "Machine.leaks" (defArgs st_Machine_leaks) (defBody st_Machine_leaks) (defScope st_Machine_leaks) .none kV_Machine_leaks dc_Machine_leaks pm_Machine_leaks an_Machine_leaks cd_Machine_leaks ct_Machine_leaks), sl_Machine_leaks⟩)
    (h74 : PySem.W.codeIn K cd_Machine_leaks "Machine.leaks" = true)
    (h75 : PySem.W.keepIn K (.ref f_Machine_leaks) = true)
    (h76 : PySem.W.findIn K (.ref f_Machine) "edges" = some (some (.ref f_Machine_edges)))
    (h77 : PySem.W.isFn K (.ref f_Machine_edges) = true)
    (h78 : K.lookup f_Machine_edges = some ⟨oc_Machine_edges, od_Machine_edges, .func (PySem.W.fnOf "edges" "Machine.edges" (defArgs st_Machine_edges) (defBody st_Machine_edges) (defScope st_Machine_edges) .none kV_Machine_edges dc_Machine_edges pm_Machine_edges an_Machine_edges cd_Machine_edges ct_Machine_edges), sl_Machine_edges⟩)
    (h79 : PySem.W.codeIn K cd_Machine_edges "Machine.edges" = true)
    (h80 : PySem.W.keepIn K (.ref f_Machine_edges) = true)
    (h81 : PySem.W.findIn K (.ref f_Machine) "check_edge" = some (some (.ref f_Machine_check_edge)))
    (h82 : PySem.W.isFn K (.ref f_Machine_check_edge) = true)
    (h83 : K.lookup f_Machine_check_edge = some ⟨oc_Machine_check_edge, od_Machine_check_edge, .func (PySem.W.fnOf "check_edge" "Machine.check_edge" (defArgs st_Machine_check_edge) (defBody st_Machine_check_edge) (defScope st_Machine_check_edge) .none kV_Machine_check_edge dc_Machine_check_edge pm_Machine_check_edge an_Machine_check_edge cd_Machine_check_edge ct_Machine_check_edge), sl_Machine_check_edge⟩)
    (h84 : PySem.W.codeIn K cd_Machine_check_edge "Machine.check_edge" = true)
    (h85 : PySem.W.keepIn K (.ref f_Machine_check_edge) = true)
    (h86 : PySem.W.findIn K (.ref f_Machine) "check_node" = some (some (.ref f_Machine_check_node)))
    (h87 : PySem.W.isFn K (.ref f_Machine_check_node) = true)
    (h88 : K.lookup f_Machine_check_node = some ⟨oc_Machine_check_node, od_Machine_check_node, .func (PySem.W.fnOf "check_node" "Machine.check_node" (defArgs st_Machine_check_node) (defBody st_Machine_check_node) (defScope st_Machine_check_node) .none kV_Machine_check_node dc_Machine_check_node pm_Machine_check_node an_Machine_check_node cd_Machine_check_node ct_Machine_check_node), sl_Machine_check_node⟩)
    (h89 : PySem.W.codeIn K cd_Machine_check_node "Machine.check_node" = true)
    (h90 : PySem.W.keepIn K (.ref f_Machine_check_node) = true)
    (h91 : PySem.W.findIn K (.ref f_Machine) "content" = some (some (.ref f_Machine_content)))
    (h92 : PySem.W.isFn K (.ref f_Machine_content) = true)
    (h93 : K.lookup f_Machine_content = some ⟨oc_Machine_content, od_Machine_content, .func (PySem.W.fnOf "content" "Machine.content" (defArgs st_Machine_content) (defBody st_Machine_content) (defScope st_Machine_content) .none kV_Machine_content dc_Machine_content pm_Machine_content an_Machine_content cd_Machine_content ct_Machine_content), sl_Machine_content⟩)
    (h94 : PySem.W.codeIn K cd_Machine_content "Machine.content" = true)
    (h95 : PySem.W.keepIn K (.ref f_Machine_content) = true)
    (h96 : PySem.W.findIn K (.ref f_Machine) "__eq__" = some (some (.ref f_Machine_eq)))
    (h97 : PySem.W.isFn K (.ref f_Machine_eq) = true)
    (h98 : K.lookup f_Machine_eq = some ⟨oc_Machine_eq, od_Machine_eq, .func (PySem.W.fnOf "__eq__" "Machine.__eq__" (defArgs st_Machine_eq) (defBody st_Machine_eq) (defScope st_Machine_eq) .none kV_Machine_eq dc_Machine_eq pm_Machine_eq an_Machine_eq cd_Machine_eq ct_Machine_eq), sl_Machine_eq⟩)
    (h99 : PySem.W.codeIn K cd_Machine_eq "Machine.__eq__" = true)
    (h100 : PySem.W.keepIn K (.ref f_Machine_eq) = true)
    (h101 : PySem.W.findIn K (.ref f_Machine) "with_edges" = some (some (.ref f_Machine_with_edges)))
    (h102 : PySem.W.isFn K (.ref f_Machine_with_edges) = true)
    (h103 : K.lookup f_Machine_with_edges = some ⟨oc_Machine_with_edges, od_Machine_with_edges, .func (PySem.W.fnOf "with_edges" "Machine.with_edges" (defArgs st_Machine_with_edges) (defBody st_Machine_with_edges) (defScope st_Machine_with_edges) .none kV_Machine_with_edges dc_Machine_with_edges pm_Machine_with_edges an_Machine_with_edges cd_Machine_with_edges ct_Machine_with_edges), sl_Machine_with_edges⟩)
    (h104 : PySem.W.codeIn K cd_Machine_with_edges "Machine.with_edges" = true)
    (h105 : PySem.W.keepIn K (.ref f_Machine_with_edges) = true)
    (h106 : PySem.W.findIn K (.ref f_Machine) "barred" = some (some (.ref f_Machine_barred)))
    (h107 : PySem.W.isFn K (.ref f_Machine_barred) = true)
    (h108 : K.lookup f_Machine_barred = some ⟨oc_Machine_barred, od_Machine_barred, .func (PySem.W.fnOf "barred" "Machine.barred" (defArgs st_Machine_barred) (defBody st_Machine_barred) (defScope st_Machine_barred) .none kV_Machine_barred dc_Machine_barred pm_Machine_barred an_Machine_barred cd_Machine_barred ct_Machine_barred), sl_Machine_barred⟩)
    (h109 : PySem.W.codeIn K cd_Machine_barred "Machine.barred" = true)
    (h110 : PySem.W.keepIn K (.ref f_Machine_barred) = true)
    (h111 : PySem.W.findIn K (.ref f_Machine) "with_edge" = some (some (.ref f_Machine_with_edge)))
    (h112 : PySem.W.isFn K (.ref f_Machine_with_edge) = true)
    (h113 : K.lookup f_Machine_with_edge = some ⟨oc_Machine_with_edge, od_Machine_with_edge, .func (PySem.W.fnOf "with_edge" "Machine.with_edge" (defArgs st_Machine_with_edge) (defBody st_Machine_with_edge) (defScope st_Machine_with_edge) .none kV_Machine_with_edge dc_Machine_with_edge pm_Machine_with_edge an_Machine_with_edge cd_Machine_with_edge ct_Machine_with_edge), sl_Machine_with_edge⟩)
    (h114 : PySem.W.codeIn K cd_Machine_with_edge "Machine.with_edge" = true)
    (h115 : PySem.W.keepIn K (.ref f_Machine_with_edge) = true)
    (h116 : PySem.W.findIn K (.ref f_Machine) "begun" = some (some (.ref f_Machine_begun)))
    (h117 : PySem.W.isFn K (.ref f_Machine_begun) = true)
    (h118 : K.lookup f_Machine_begun = some ⟨oc_Machine_begun, od_Machine_begun, .func (PySem.W.fnOf "begun" "Machine.begun" (defArgs st_Machine_begun) (defBody st_Machine_begun) (defScope st_Machine_begun) .none kV_Machine_begun dc_Machine_begun pm_Machine_begun an_Machine_begun cd_Machine_begun ct_Machine_begun), sl_Machine_begun⟩)
    (h119 : PySem.W.codeIn K cd_Machine_begun "Machine.begun" = true)
    (h120 : PySem.W.keepIn K (.ref f_Machine_begun) = true)
    (h121 : PySem.W.nsIn K mainGlobals "_law_bag" = some (some (.ref f_law_bag)))
    (h122 : K.lookup f_law_bag = some ⟨oc_law_bag, od_law_bag, .func (PySem.W.fnOf "_law_bag" "_law_bag" (defArgs st_law_bag) (defBody st_law_bag) (defScope st_law_bag) .none kV_law_bag dc_law_bag pm_law_bag an_law_bag cd_law_bag ct_law_bag), sl_law_bag⟩)
    (h123 : PySem.W.codeIn K cd_law_bag "_law_bag" = true)
    (h124 : PySem.W.keepIn K (.ref f_law_bag) = true)
    (h125 : PySem.W.nsIn K mainGlobals "_law_pull" = some (some (.ref f_law_pull)))
    (h126 : K.lookup f_law_pull = some ⟨oc_law_pull, od_law_pull, .func (PySem.W.fnOf "_law_pull" "_law_pull" (defArgs st_law_pull) (defBody st_law_pull) (defScope st_law_pull) .none kV_law_pull dc_law_pull pm_law_pull an_law_pull cd_law_pull ct_law_pull), sl_law_pull⟩)
    (h127 : PySem.W.codeIn K cd_law_pull "_law_pull" = true)
    (h128 : PySem.W.keepIn K (.ref f_law_pull) = true)
    (h129 : PySem.W.nsIn K mainGlobals "_law_pick" = some (some (.ref f_law_pick)))
    (h130 : K.lookup f_law_pick = some ⟨oc_law_pick, od_law_pick, .func (PySem.W.fnOf "_law_pick" "_law_pick" (defArgs st_law_pick) (defBody st_law_pick) (defScope st_law_pick) .none kV_law_pick dc_law_pick pm_law_pick an_law_pick cd_law_pick ct_law_pick), sl_law_pick⟩)
    (h131 : PySem.W.codeIn K cd_law_pick "_law_pick" = true)
    (h132 : PySem.W.keepIn K (.ref f_law_pick) = true)
    (h133 : PySem.W.nsIn K mainGlobals "_law_same" = some (some (.ref f_law_same)))
    (h134 : K.lookup f_law_same = some ⟨oc_law_same, od_law_same, .func (PySem.W.fnOf "_law_same" "_law_same" (defArgs st_law_same) (defBody st_law_same) (defScope st_law_same) .none kV_law_same dc_law_same pm_law_same an_law_same cd_law_same ct_law_same), sl_law_same⟩)
    (h135 : PySem.W.codeIn K cd_law_same "_law_same" = true)
    (h136 : PySem.W.keepIn K (.ref f_law_same) = true)
    (h137 : PySem.W.nsIn K mainGlobals "_law_leaks" = some (some (.ref f_law_leaks)))
    (h138 : K.lookup f_law_leaks = some ⟨oc_law_leaks, od_law_leaks, .func (PySem.W.fnOf "_law_leaks" "_law_leaks" (defArgs st_law_leaks) (defBody st_law_leaks) (defScope st_law_leaks) .none kV_law_leaks dc_law_leaks pm_law_leaks an_law_leaks cd_law_leaks ct_law_leaks), sl_law_leaks⟩)
    (h139 : PySem.W.codeIn K cd_law_leaks "_law_leaks" = true)
    (h140 : PySem.W.keepIn K (.ref f_law_leaks) = true)
    (h141 : PySem.W.nsIn K mainGlobals "_law_deed" = some (some (.ref f_law_deed)))
    (h142 : K.lookup f_law_deed = some ⟨oc_law_deed, od_law_deed, .func (PySem.W.fnOf "_law_deed" "_law_deed" (defArgs st_law_deed) (defBody st_law_deed) (defScope st_law_deed) .none kV_law_deed dc_law_deed pm_law_deed an_law_deed cd_law_deed ct_law_deed), sl_law_deed⟩)
    (h143 : PySem.W.codeIn K cd_law_deed "_law_deed" = true)
    (h144 : PySem.W.keepIn K (.ref f_law_deed) = true)
    (h145 : PySem.W.nsIn K mainGlobals "_law_model" = some (some (.ref f_law_model)))
    (h146 : K.lookup f_law_model = some ⟨oc_law_model, od_law_model, .func (PySem.W.fnOf "_law_model" "_law_model" (defArgs st_law_model) (defBody st_law_model) (defScope st_law_model) .none kV_law_model dc_law_model pm_law_model an_law_model cd_law_model ct_law_model), sl_law_model⟩)
    (h147 : PySem.W.codeIn K cd_law_model "_law_model" = true)
    (h148 : PySem.W.keepIn K (.ref f_law_model) = true)
    (h149 : PySem.W.nsIn K mainGlobals "_law_made" = some (some (.ref f_law_made)))
    (h150 : K.lookup f_law_made = some ⟨oc_law_made, od_law_made, .func (PySem.W.fnOf "_law_made" "_law_made" (defArgs st_law_made) (defBody st_law_made) (defScope st_law_made) .none kV_law_made dc_law_made pm_law_made an_law_made cd_law_made ct_law_made), sl_law_made⟩)
    (h151 : PySem.W.codeIn K cd_law_made "_law_made" = true)
    (h152 : PySem.W.keepIn K (.ref f_law_made) = true)
    (h153 : PySem.W.nsIn K mainGlobals "law" = some (some (.ref f_law)))
    (h154 : K.lookup f_law = some ⟨oc_law, od_law, .func (PySem.W.fnOf "law" "law" (defArgs st_law) (defBody st_law) (defScope st_law) .none kV_law dc_law pm_law an_law cd_law ct_law), sl_law⟩)
    (h155 : PySem.W.codeIn K cd_law "law" = true)
    (h156 : PySem.W.keepIn K (.ref f_law) = true)
    (h157 : PySem.W.nsIn K mainGlobals "len" = some none)
    (h158 : PySem.W.nsIn K mainGlobals "all" = some none)
    (h159 : PySem.W.nsIn K mainGlobals "any" = some none)
    (h160 : PySem.W.nsIn K mainGlobals "max" = some none)
    (h161 : PySem.W.nsIn K mainGlobals "isinstance" = some none)
    (h162 : PySem.W.nsIn K mainGlobals "int" = some none)
    (h163 : PySem.W.nsIn K mainGlobals "list" = some none)
    (h164 : PySem.W.nsIn K mainGlobals "tuple" = some none)
    (h165 : PySem.W.nsIn K mainGlobals "str" = some none)
    (h166 : PySem.W.nsIn K mainGlobals "set" = some none)
    (h167 : PySem.W.nsIn K mainGlobals "sorted" = some none)
    (h168 : PySem.W.nsIn K mainGlobals "range" = some none)
    (h169 : PySem.W.nsIn K mainGlobals "zip" = some none)
    (h170 : PySem.W.nsIn K mainGlobals "bool" = some none)
    (h171 : PySem.W.nsIn K mainGlobals "enumerate" = some none)
    (h172 : PySem.W.nsIn K mainGlobals "MOST_WIDTH" = some (some (.int 4 tk_MOST_WIDTH)))
    (h173 : PySem.W.nsIn K mainGlobals "SMALL" = some (some (.str "abcdefghijklmnopqrstuvwxyz" tk_SMALL)))
    (h174 : PySem.W.nsIn K mainGlobals "DIGITS" = some (some (.str "0123456789" tk_DIGITS)))
    (h175 : PySem.W.nsIn K mainGlobals "MOST_NAME" = some (some (.int 6 tk_MOST_NAME)))
    (h176 : PySem.W.nsIn K mainGlobals "MOST_FIGURES" = some (some (.int 12 tk_MOST_FIGURES)))
    (h177 : PySem.W.nsIn K mainGlobals "MOST_STEP" = some (some (.int 9 tk_MOST_STEP)))
    (h178 : PySem.W.nsIn K mainGlobals "LENGTHS" = some (some (.ref f_LENGTHS)))
    (h179 : K.lookup f_LENGTHS = some ⟨.type "dict", none, .dict es_LENGTHS en_LENGTHS, #[]⟩)
    (h180 : PySem.W.KeysLit w.params es_LENGTHS.toList)
    (h181 : (f_LENGTHS == sysModules) = false)
    (h182 : es_LENGTHS.toList.map entI = rows_LENGTHS.map some) :
    ∃ fd : FuncData, (∀ (s : Shared) (v : Value), BindsTo s fd ⟨[v], []⟩ [("_law_script", v)]) ∧ ∀ base : Heap, K.In base → base.Ns mainGlobals mg → FnOk l.prog w K mg base CX0 9 fa fd ["_law_script"] (spLaw K) := by
  have e := hfa.symm.trans (PySem.W.mg_of X G h153)
  cases e
  have FF_is_number : FunD K "is_number" "is_number" (defArgs st_is_number) (defBody st_is_number) (defScope st_is_number) [.non] [] f_is_number (PySem.W.fnOf "is_number" "is_number" (defArgs st_is_number) (defBody st_is_number) (defScope st_is_number) (.ref dT_is_number) kV_is_number dc_is_number pm_is_number an_is_number cd_is_number ct_is_number) := fund_mk (st := st_is_number) h23 h24 h25 (dfl1 (by simp) h26 (by rw [h27]; exact (.cons rfl .nil))) kwd0
  obtain ⟨eb_is_number, hv_is_number, hb_is_number⟩ := FF_is_number.binds1 (ps := ["value", "least", "most"]) 3 1 (by simp) rfl fun _ _ _ _ _ _ _ us its h1 h2 => (match us, its, h1, h2 with | [_, _, _], [_], _, _ => ⟨_, rfl, rfl⟩)
  have FF_Machine_init : FunD K "__init__" "Machine.__init__" (defArgs st_Machine_init) (defBody st_Machine_init) (defScope st_Machine_init) [] [("start", .int 0), ("nodes", .non)] f_Machine_init (PySem.W.fnOf "__init__" "Machine.__init__" (defArgs st_Machine_init) (defBody st_Machine_init) (defScope st_Machine_init) .none (.ref kD_Machine_init) dc_Machine_init pm_Machine_init an_Machine_init cd_Machine_init ct_Machine_init) := fund_mk (st := st_Machine_init) h52 h53 h54 dfl0 (kwd1 (by intro q hq; simp only [List.mem_cons, List.not_mem_nil, or_false] at hq; rcases hq with rfl | rfl <;> first | exact ⟨_, h55, ⟨_, rfl⟩⟩ | exact ⟨_, h56, rfl⟩))
  obtain ⟨mv_Machine_init_3_start_nodes, kb_Machine_init_3_start_nodes⟩ := FF_Machine_init.kbinds0 (ps := ["self", "leaks", "edges", "start", "nodes"]) 3 ["start", "nodes"] [] (fun {α} us mz zs => atL us 0 ++ atL us 1 ++ atL us 2 ++ atL zs 0 ++ atL zs 1) (by simp) (by simp) (fun h1 hm h2 => (Vals.append (Vals.append (Vals.append (Vals.append (vals_atL h1 0) (vals_atL h1 1)) (vals_atL h1 2)) (vals_atL h2 0)) (vals_atL h2 1))) fun _ _ _ _ _ _ us mz zs h1 hm h2 => (match us, mz, zs, h1, hm, h2 with | [_, _, _], [], [_, _], _, _, _ => by walk_at "kwch")
  let T : Txt w K mg := {
    a_Machine := f_Machine,
    c_Machine := PySem.W.mg_of X G h1,
    cl_Machine := ⟨h2, h3, h4, h5⟩,
    na_Machine_own_leaks := h6,
    na_Machine_own_edges := h7,
    na_Machine_own_start := h8,
    na_Machine_own_nodes := h9,
    ty_Machine := ⟨h10, h11, h12, h13⟩,
    eq_Machine := ⟨h14, h15, h16, h17⟩,
    cr_Machine := ⟨h18, h19⟩,
    ct_Machine_MOST_NODES := tk_Machine_MOST_NODES,
    cv_Machine_MOST_NODES := ⟨h20, ⟨_, rfl⟩⟩,
    ct_Machine_MOST_EDGES := tk_Machine_MOST_EDGES,
    cv_Machine_MOST_EDGES := ⟨h21, ⟨_, rfl⟩⟩,
    a_is_number := f_is_number,
    d_is_number := (PySem.W.fnOf "is_number" "is_number" (defArgs st_is_number) (defBody st_is_number) (defScope st_is_number) (.ref dT_is_number) kV_is_number dc_is_number pm_is_number an_is_number cd_is_number ct_is_number),
    F_is_number := FF_is_number,
    b_is_number := (by cases hv_is_number; exact hb_is_number),
    g_is_number := PySem.W.mg_of X G h22,
    a_is_listed := f_is_listed,
    d_is_listed := (PySem.W.fnOf "is_listed" "is_listed" (defArgs st_is_listed) (defBody st_is_listed) (defScope st_is_listed) .none kV_is_listed dc_is_listed pm_is_listed an_is_listed cd_is_listed ct_is_listed),
    F_is_listed := fun_mk (st := st_is_listed) h29 h30 h31,
    b_is_listed := (fun_mk (st := st_is_listed) h29 h30 h31).binds (ps := ["value"]) fun _ _ _ _ _ _ us hl => (match us, hl with | [_], _ => rfl),
    g_is_listed := PySem.W.mg_of X G h28,
    a_is_name := f_is_name,
    d_is_name := (PySem.W.fnOf "is_name" "is_name" (defArgs st_is_name) (defBody st_is_name) (defScope st_is_name) .none kV_is_name dc_is_name pm_is_name an_is_name cd_is_name ct_is_name),
    F_is_name := fun_mk (st := st_is_name) h33 h34 h35,
    b_is_name := (fun_mk (st := st_is_name) h33 h34 h35).binds (ps := ["value"]) fun _ _ _ _ _ _ us hl => (match us, hl with | [_], _ => rfl),
    g_is_name := PySem.W.mg_of X G h32,
    a_is_deed := f_is_deed,
    d_is_deed := (PySem.W.fnOf "is_deed" "is_deed" (defArgs st_is_deed) (defBody st_is_deed) (defScope st_is_deed) .none kV_is_deed dc_is_deed pm_is_deed an_is_deed cd_is_deed ct_is_deed),
    F_is_deed := fun_mk (st := st_is_deed) h37 h38 h39,
    b_is_deed := (fun_mk (st := st_is_deed) h37 h38 h39).binds (ps := ["leaks", "value"]) fun _ _ _ _ _ _ us hl => (match us, hl with | [_, _], _ => rfl),
    g_is_deed := PySem.W.mg_of X G h36,
    a_is_edge := f_is_edge,
    d_is_edge := (PySem.W.fnOf "is_edge" "is_edge" (defArgs st_is_edge) (defBody st_is_edge) (defScope st_is_edge) .none kV_is_edge dc_is_edge pm_is_edge an_is_edge cd_is_edge ct_is_edge),
    F_is_edge := fun_mk (st := st_is_edge) h41 h42 h43,
    b_is_edge := (fun_mk (st := st_is_edge) h41 h42 h43).binds (ps := ["leaks", "nodes", "value"]) fun _ _ _ _ _ _ us hl => (match us, hl with | [_, _, _], _ => rfl),
    g_is_edge := PySem.W.mg_of X G h40,
    a_is_leaks := f_is_leaks,
    d_is_leaks := (PySem.W.fnOf "is_leaks" "is_leaks" (defArgs st_is_leaks) (defBody st_is_leaks) (defScope st_is_leaks) .none kV_is_leaks dc_is_leaks pm_is_leaks an_is_leaks cd_is_leaks ct_is_leaks),
    F_is_leaks := fun_mk (st := st_is_leaks) h45 h46 h47,
    b_is_leaks := (fun_mk (st := st_is_leaks) h45 h46 h47).binds (ps := ["value"]) fun _ _ _ _ _ _ us hl => (match us, hl with | [_], _ => rfl),
    g_is_leaks := PySem.W.mg_of X G h44,
    mk_Machine := ⟨h50, h48, h49, h51⟩,
    a_Machine_init := f_Machine_init,
    d_Machine_init := (PySem.W.fnOf "__init__" "Machine.__init__" (defArgs st_Machine_init) (defBody st_Machine_init) (defScope st_Machine_init) .none (.ref kD_Machine_init) dc_Machine_init pm_Machine_init an_Machine_init cd_Machine_init ct_Machine_init),
    F_Machine_init := FF_Machine_init,
    p_Machine_nodes := pr_Machine_nodes,
    pp_Machine_nodes := ⟨h57, h58, h59, ⟨_, h60⟩⟩,
    a_Machine_nodes := f_Machine_nodes,
    d_Machine_nodes := (PySem.W.fnOf "nodes" "Machine.nodes" (defArgs st_Machine_nodes) (defBody st_Machine_nodes) (defScope st_Machine_nodes) .none kV_Machine_nodes dc_Machine_nodes pm_Machine_nodes an_Machine_nodes cd_Machine_nodes ct_Machine_nodes),
    F_Machine_nodes := fun_mk (st := st_Machine_nodes) h61 h62 h63,
    b_Machine_nodes := (fun_mk (st := st_Machine_nodes) h61 h62 h63).binds (ps := ["self"]) fun _ _ _ _ _ _ us hl => (match us, hl with | [_], _ => rfl),
    p_Machine_start := pr_Machine_start,
    pp_Machine_start := ⟨h64, h65, h66, ⟨_, h67⟩⟩,
    a_Machine_start := f_Machine_start,
    d_Machine_start := (PySem.W.fnOf "start" "Machine.start" (defArgs st_Machine_start) (defBody st_Machine_start) (defScope st_Machine_start) .none kV_Machine_start dc_Machine_start pm_Machine_start an_Machine_start cd_Machine_start ct_Machine_start),
    F_Machine_start := fun_mk (st := st_Machine_start) h68 h69 h70,
    b_Machine_start := (fun_mk (st := st_Machine_start) h68 h69 h70).binds (ps := ["self"]) fun _ _ _ _ _ _ us hl => (match us, hl with | [_], _ => rfl),
    m_Machine_leaks := ⟨h71, h72, h75⟩,
    a_Machine_leaks := f_Machine_leaks,
    d_Machine_leaks := (PySem.W.fnOf "leaks" "Machine.leaks" (defArgs st_Machine_leaks) (defBody st_Machine_leaks) (defScope st_Machine_leaks) .none kV_Machine_leaks dc_Machine_leaks pm_Machine_leaks an_Machine_leaks cd_Machine_leaks ct_Machine_leaks),
    F_Machine_leaks := fun_mk (st := st_Machine_leaks) h73 h74 h75,
    b_Machine_leaks := (fun_mk (st := st_Machine_leaks) h73 h74 h75).binds (ps := ["self"]) fun _ _ _ _ _ _ us hl => (match us, hl with | [_], _ => rfl),
    m_Machine_edges := ⟨h76, h77, h80⟩,
    a_Machine_edges := f_Machine_edges,
    d_Machine_edges := (PySem.W.fnOf "edges" "Machine.edges" (defArgs st_Machine_edges) (defBody st_Machine_edges) (defScope st_Machine_edges) .none kV_Machine_edges dc_Machine_edges pm_Machine_edges an_Machine_edges cd_Machine_edges ct_Machine_edges),
    F_Machine_edges := fun_mk (st := st_Machine_edges) h78 h79 h80,
    b_Machine_edges := (fun_mk (st := st_Machine_edges) h78 h79 h80).binds (ps := ["self"]) fun _ _ _ _ _ _ us hl => (match us, hl with | [_], _ => rfl),
    m_Machine_check_edge := ⟨h81, h82, h85⟩,
    a_Machine_check_edge := f_Machine_check_edge,
    d_Machine_check_edge := (PySem.W.fnOf "check_edge" "Machine.check_edge" (defArgs st_Machine_check_edge) (defBody st_Machine_check_edge) (defScope st_Machine_check_edge) .none kV_Machine_check_edge dc_Machine_check_edge pm_Machine_check_edge an_Machine_check_edge cd_Machine_check_edge ct_Machine_check_edge),
    F_Machine_check_edge := fun_mk (st := st_Machine_check_edge) h83 h84 h85,
    b_Machine_check_edge := (fun_mk (st := st_Machine_check_edge) h83 h84 h85).binds (ps := ["self", "at"]) fun _ _ _ _ _ _ us hl => (match us, hl with | [_, _], _ => rfl),
    m_Machine_check_node := ⟨h86, h87, h90⟩,
    a_Machine_check_node := f_Machine_check_node,
    d_Machine_check_node := (PySem.W.fnOf "check_node" "Machine.check_node" (defArgs st_Machine_check_node) (defBody st_Machine_check_node) (defScope st_Machine_check_node) .none kV_Machine_check_node dc_Machine_check_node pm_Machine_check_node an_Machine_check_node cd_Machine_check_node ct_Machine_check_node),
    F_Machine_check_node := fun_mk (st := st_Machine_check_node) h88 h89 h90,
    b_Machine_check_node := (fun_mk (st := st_Machine_check_node) h88 h89 h90).binds (ps := ["self", "node"]) fun _ _ _ _ _ _ us hl => (match us, hl with | [_, _], _ => rfl),
    m_Machine_content := ⟨h91, h92, h95⟩,
    a_Machine_content := f_Machine_content,
    d_Machine_content := (PySem.W.fnOf "content" "Machine.content" (defArgs st_Machine_content) (defBody st_Machine_content) (defScope st_Machine_content) .none kV_Machine_content dc_Machine_content pm_Machine_content an_Machine_content cd_Machine_content ct_Machine_content),
    F_Machine_content := fun_mk (st := st_Machine_content) h93 h94 h95,
    b_Machine_content := (fun_mk (st := st_Machine_content) h93 h94 h95).binds (ps := ["self"]) fun _ _ _ _ _ _ us hl => (match us, hl with | [_], _ => rfl),
    m_Machine_eq := ⟨h96, h97, h100⟩,
    a_Machine_eq := f_Machine_eq,
    d_Machine_eq := (PySem.W.fnOf "__eq__" "Machine.__eq__" (defArgs st_Machine_eq) (defBody st_Machine_eq) (defScope st_Machine_eq) .none kV_Machine_eq dc_Machine_eq pm_Machine_eq an_Machine_eq cd_Machine_eq ct_Machine_eq),
    F_Machine_eq := fun_mk (st := st_Machine_eq) h98 h99 h100,
    b_Machine_eq := (fun_mk (st := st_Machine_eq) h98 h99 h100).binds (ps := ["self", "other"]) fun _ _ _ _ _ _ us hl => (match us, hl with | [_, _], _ => rfl),
    m_Machine_with_edges := ⟨h101, h102, h105⟩,
    a_Machine_with_edges := f_Machine_with_edges,
    d_Machine_with_edges := (PySem.W.fnOf "with_edges" "Machine.with_edges" (defArgs st_Machine_with_edges) (defBody st_Machine_with_edges) (defScope st_Machine_with_edges) .none kV_Machine_with_edges dc_Machine_with_edges pm_Machine_with_edges an_Machine_with_edges cd_Machine_with_edges ct_Machine_with_edges),
    F_Machine_with_edges := fun_mk (st := st_Machine_with_edges) h103 h104 h105,
    b_Machine_with_edges := (fun_mk (st := st_Machine_with_edges) h103 h104 h105).binds (ps := ["self", "edges"]) fun _ _ _ _ _ _ us hl => (match us, hl with | [_, _], _ => rfl),
    m_Machine_barred := ⟨h106, h107, h110⟩,
    a_Machine_barred := f_Machine_barred,
    d_Machine_barred := (PySem.W.fnOf "barred" "Machine.barred" (defArgs st_Machine_barred) (defBody st_Machine_barred) (defScope st_Machine_barred) .none kV_Machine_barred dc_Machine_barred pm_Machine_barred an_Machine_barred cd_Machine_barred ct_Machine_barred),
    F_Machine_barred := fun_mk (st := st_Machine_barred) h108 h109 h110,
    bs_Machine_barred := fun us rest hl => StX.bind_star1 (B := fun us => bindArgs (PySem.W.fnOf "barred" "Machine.barred" (defArgs st_Machine_barred) (defBody st_Machine_barred) (defScope st_Machine_barred) .none kV_Machine_barred dc_Machine_barred pm_Machine_barred an_Machine_barred cd_Machine_barred ct_Machine_barred) ⟨us, []⟩) (fun a => rfl) (fun a r rs => rfl) us rest hl,
    m_Machine_with_edge := ⟨h111, h112, h115⟩,
    a_Machine_with_edge := f_Machine_with_edge,
    d_Machine_with_edge := (PySem.W.fnOf "with_edge" "Machine.with_edge" (defArgs st_Machine_with_edge) (defBody st_Machine_with_edge) (defScope st_Machine_with_edge) .none kV_Machine_with_edge dc_Machine_with_edge pm_Machine_with_edge an_Machine_with_edge cd_Machine_with_edge ct_Machine_with_edge),
    F_Machine_with_edge := fun_mk (st := st_Machine_with_edge) h113 h114 h115,
    b_Machine_with_edge := (fun_mk (st := st_Machine_with_edge) h113 h114 h115).binds (ps := ["self", "edge"]) fun _ _ _ _ _ _ us hl => (match us, hl with | [_, _], _ => rfl),
    m_Machine_begun := ⟨h116, h117, h120⟩,
    a_Machine_begun := f_Machine_begun,
    d_Machine_begun := (PySem.W.fnOf "begun" "Machine.begun" (defArgs st_Machine_begun) (defBody st_Machine_begun) (defScope st_Machine_begun) .none kV_Machine_begun dc_Machine_begun pm_Machine_begun an_Machine_begun cd_Machine_begun ct_Machine_begun),
    F_Machine_begun := fun_mk (st := st_Machine_begun) h118 h119 h120,
    b_Machine_begun := (fun_mk (st := st_Machine_begun) h118 h119 h120).binds (ps := ["self", "start"]) fun _ _ _ _ _ _ us hl => (match us, hl with | [_, _], _ => rfl),
    a_law_bag := f_law_bag,
    d_law_bag := (PySem.W.fnOf "_law_bag" "_law_bag" (defArgs st_law_bag) (defBody st_law_bag) (defScope st_law_bag) .none kV_law_bag dc_law_bag pm_law_bag an_law_bag cd_law_bag ct_law_bag),
    F_law_bag := fun_mk (st := st_law_bag) h122 h123 h124,
    b_law_bag := (fun_mk (st := st_law_bag) h122 h123 h124).binds (ps := ["_law_script"]) fun _ _ _ _ _ _ us hl => (match us, hl with | [_], _ => rfl),
    g_law_bag := PySem.W.mg_of X G h121,
    a_law_pull := f_law_pull,
    d_law_pull := (PySem.W.fnOf "_law_pull" "_law_pull" (defArgs st_law_pull) (defBody st_law_pull) (defScope st_law_pull) .none kV_law_pull dc_law_pull pm_law_pull an_law_pull cd_law_pull ct_law_pull),
    F_law_pull := fun_mk (st := st_law_pull) h126 h127 h128,
    b_law_pull := (fun_mk (st := st_law_pull) h126 h127 h128).binds (ps := ["_law_bag_here", "_law_many"]) fun _ _ _ _ _ _ us hl => (match us, hl with | [_, _], _ => rfl),
    g_law_pull := PySem.W.mg_of X G h125,
    a_law_pick := f_law_pick,
    d_law_pick := (PySem.W.fnOf "_law_pick" "_law_pick" (defArgs st_law_pick) (defBody st_law_pick) (defScope st_law_pick) .none kV_law_pick dc_law_pick pm_law_pick an_law_pick cd_law_pick ct_law_pick),
    F_law_pick := fun_mk (st := st_law_pick) h130 h131 h132,
    b_law_pick := (fun_mk (st := st_law_pick) h130 h131 h132).binds (ps := ["_law_bag_here", "_law_row"]) fun _ _ _ _ _ _ us hl => (match us, hl with | [_, _], _ => rfl),
    g_law_pick := PySem.W.mg_of X G h129,
    a_law_same := f_law_same,
    d_law_same := (PySem.W.fnOf "_law_same" "_law_same" (defArgs st_law_same) (defBody st_law_same) (defScope st_law_same) .none kV_law_same dc_law_same pm_law_same an_law_same cd_law_same ct_law_same),
    F_law_same := fun_mk (st := st_law_same) h134 h135 h136,
    b_law_same := (fun_mk (st := st_law_same) h134 h135 h136).binds (ps := ["_law_found", "_law_due"]) fun _ _ _ _ _ _ us hl => (match us, hl with | [_, _], _ => rfl),
    g_law_same := PySem.W.mg_of X G h133,
    a_law_leaks := f_law_leaks,
    d_law_leaks := (PySem.W.fnOf "_law_leaks" "_law_leaks" (defArgs st_law_leaks) (defBody st_law_leaks) (defScope st_law_leaks) .none kV_law_leaks dc_law_leaks pm_law_leaks an_law_leaks cd_law_leaks ct_law_leaks),
    F_law_leaks := fun_mk (st := st_law_leaks) h138 h139 h140,
    b_law_leaks := (fun_mk (st := st_law_leaks) h138 h139 h140).binds (ps := ["_law_bag_here", "_law_most"]) fun _ _ _ _ _ _ us hl => (match us, hl with | [_, _], _ => rfl),
    g_law_leaks := PySem.W.mg_of X G h137,
    a_law_deed := f_law_deed,
    d_law_deed := (PySem.W.fnOf "_law_deed" "_law_deed" (defArgs st_law_deed) (defBody st_law_deed) (defScope st_law_deed) .none kV_law_deed dc_law_deed pm_law_deed an_law_deed cd_law_deed ct_law_deed),
    F_law_deed := fun_mk (st := st_law_deed) h142 h143 h144,
    b_law_deed := (fun_mk (st := st_law_deed) h142 h143 h144).binds (ps := ["_law_bag_here", "_law_leaks_here", "_law_most"]) fun _ _ _ _ _ _ us hl => (match us, hl with | [_, _, _], _ => rfl),
    g_law_deed := PySem.W.mg_of X G h141,
    a_law_model := f_law_model,
    d_law_model := (PySem.W.fnOf "_law_model" "_law_model" (defArgs st_law_model) (defBody st_law_model) (defScope st_law_model) .none kV_law_model dc_law_model pm_law_model an_law_model cd_law_model ct_law_model),
    F_law_model := fun_mk (st := st_law_model) h146 h147 h148,
    b_law_model := (fun_mk (st := st_law_model) h146 h147 h148).binds (ps := ["_law_bag_here", "_law_width", "_law_nodes_z", "_law_edges", "_law_most"]) fun _ _ _ _ _ _ us hl => (match us, hl with | [_, _, _, _, _], _ => rfl),
    g_law_model := PySem.W.mg_of X G h145,
    a_law_made := f_law_made,
    d_law_made := (PySem.W.fnOf "_law_made" "_law_made" (defArgs st_law_made) (defBody st_law_made) (defScope st_law_made) .none kV_law_made dc_law_made pm_law_made an_law_made cd_law_made ct_law_made),
    F_law_made := fun_mk (st := st_law_made) h150 h151 h152,
    b_law_made := (fun_mk (st := st_law_made) h150 h151 h152).binds (ps := ["_law_model_here"]) fun _ _ _ _ _ _ us hl => (match us, hl with | [_], _ => rfl),
    g_law_made := PySem.W.mg_of X G h149,
    a_law := fa,
    d_law := (PySem.W.fnOf "law" "law" (defArgs st_law) (defBody st_law) (defScope st_law) .none kV_law dc_law pm_law an_law cd_law ct_law),
    F_law := fun_mk (st := st_law) h154 h155 h156,
    b_law := (fun_mk (st := st_law) h154 h155 h156).binds (ps := ["_law_script"]) fun _ _ _ _ _ _ us hl => (match us, hl with | [_], _ => rfl),
    g_law := PySem.W.mg_of X G h153,
    kg_Machine_init_3_start_nodes := _,
    kb_Machine_init_3_start_nodes := kb_Machine_init_3_start_nodes,
    kb_Machine_with_edge_1_edge := ⟨fun s us ws _ h1 h2 => (match us, ws, h1, h2 with | [_], [_], _, _ => .of_eq rfl), fun {vs us zs ws} r1 r2 => (.cons (vals_getD r1 0) (.cons (vals_getD r2 0) .nil))⟩,
    kb_Machine_begun_1_start := ⟨fun s us ws _ h1 h2 => (match us, ws, h1, h2 with | [_], [_], _, _ => .of_eq rfl), fun {vs us zs ws} r1 r2 => (.cons (vals_getD r1 0) (.cons (vals_getD r2 0) .nil))⟩,
    n_len := PySem.W.mg_none_of X G h157,
    n_all := PySem.W.mg_none_of X G h158,
    n_any := PySem.W.mg_none_of X G h159,
    n_max := PySem.W.mg_none_of X G h160,
    n_isinstance := PySem.W.mg_none_of X G h161,
    n_int := PySem.W.mg_none_of X G h162,
    n_list := PySem.W.mg_none_of X G h163,
    n_tuple := PySem.W.mg_none_of X G h164,
    n_str := PySem.W.mg_none_of X G h165,
    n_set := PySem.W.mg_none_of X G h166,
    n_sorted := PySem.W.mg_none_of X G h167,
    n_range := PySem.W.mg_none_of X G h168,
    n_zip := PySem.W.mg_none_of X G h169,
    n_bool := PySem.W.mg_none_of X G h170,
    n_enumerate := PySem.W.mg_none_of X G h171,
    t_MOST_WIDTH := tk_MOST_WIDTH,
    c_MOST_WIDTH := PySem.W.mg_of X G h172,
    t_SMALL := tk_SMALL,
    c_SMALL := PySem.W.mg_of X G h173,
    t_DIGITS := tk_DIGITS,
    c_DIGITS := PySem.W.mg_of X G h174,
    t_MOST_NAME := tk_MOST_NAME,
    c_MOST_NAME := PySem.W.mg_of X G h175,
    t_MOST_FIGURES := tk_MOST_FIGURES,
    c_MOST_FIGURES := PySem.W.mg_of X G h176,
    t_MOST_STEP := tk_MOST_STEP,
    c_MOST_STEP := PySem.W.mg_of X G h177,
    a_LENGTHS := f_LENGTHS,
    c_LENGTHS := PySem.W.mg_of X G h178,
    wd_LENGTHS := ⟨es_LENGTHS, en_LENGTHS, ⟨h179, h180, h181⟩, h182⟩ }
  exact ⟨T.d_law, fun s v => .of_eq rfl, fun base _ _ => (ok_law T (ok_Machine_init T (ok_is_number T) (ok_is_leaks T (ok_is_listed T)) (ok_is_edge T (ok_is_number T) (ok_is_deed T (ok_is_number T)) (ok_is_name T))) (ok_Machine_nodes T) (ok_Machine_start T) (ok_Machine_leaks T) (ok_Machine_edges T) (ok_Machine_eq T (ok_Machine_content T)) (ok_Machine_barred T (ok_Machine_check_edge T (ok_is_number T)) (ok_Machine_with_edges T (ok_Machine_init T (ok_is_number T) (ok_is_leaks T (ok_is_listed T)) (ok_is_edge T (ok_is_number T) (ok_is_deed T (ok_is_number T)) (ok_is_name T))))) (ok_Machine_with_edge T (ok_Machine_with_edges T (ok_Machine_init T (ok_is_number T) (ok_is_leaks T (ok_is_listed T)) (ok_is_edge T (ok_is_number T) (ok_is_deed T (ok_is_number T)) (ok_is_name T))))) (ok_Machine_begun T (ok_Machine_init T (ok_is_number T) (ok_is_leaks T (ok_is_listed T)) (ok_is_edge T (ok_is_number T) (ok_is_deed T (ok_is_number T)) (ok_is_name T))) (ok_Machine_check_node T (ok_is_number T))) (ok_law_bag T) (ok_law_pull T) (ok_law_pick T (ok_law_pull T)) (ok_law_same T 4) (ok_law_deed T (ok_law_pull T) (ok_law_pick T (ok_law_pull T))) (ok_law_model T (ok_law_pull T) (ok_law_pick T (ok_law_pull T)) (ok_law_leaks T (ok_law_pull T)) (ok_law_deed T (ok_law_pull T) (ok_law_pick T (ok_law_pull T)))) (ok_law_made T (ok_Machine_init T (ok_is_number T) (ok_is_leaks T (ok_is_listed T)) (ok_is_edge T (ok_is_number T) (ok_is_deed T (ok_is_number T)) (ok_is_name T)))))⟩
end L09
open PySem PySem.W PyProof.Rows
set_option maxHeartbeats 0 in
theorem PySem.Challenge.cw_fooledtest_k09_machines_changed_holds : PySem.Challenge.rw_fooledtest_k09_machines_changed.Holds := by
  w_on; o_law; k_head; (case hw => w_witness2)
  k_fill
  refine L2.walk_of (l := PySem.Challenge.rw_fooledtest_k09_machines_changed) (n := 63) (k := 9) (x := "_law_script") (CX := fun _ => L2.CX0) (sp := fun w => L09.spLaw _) rfl (by decide) rfl ⟨rfl, by decide, by decide⟩ (fun w h Y => PySem.W.kIn_of Y) ?F (fun _ _ a ns hl _ hS => ⟨a, ns, rfl, hS, hl, fun _ => rfl⟩) (fun _ _ _ _ _ h => h)
  case F =>
    intro w mg fa h KX G hmg
    refine' L09.all_mk KX G hmg ?h1 ?h2 ?h3 ?h4 ?h5 ?h6 ?h7 ?h8 ?h9 ?h10 ?h11 ?h12 ?h13 ?h14 ?h15 ?h16 ?h17 ?h18 ?h19 ?h20 ?h21 ?h22 ?h23 ?h24 ?h25 ?h26 ?h27 ?h28 ?h29 ?h30 ?h31 ?h32 ?h33 ?h34 ?h35 ?h36 ?h37 ?h38 ?h39 ?h40 ?h41 ?h42 ?h43 ?h44 ?h45 ?h46 ?h47 ?h48 ?h49 ?h50 ?h51 ?h52 ?h53 ?h54 ?h55 ?h56 ?h57 ?h58 ?h59 ?h60 ?h61 ?h62 ?h63 ?h64 ?h65 ?h66 ?h67 ?h68 ?h69 ?h70 ?h71 ?h72 ?h73 ?h74 ?h75 ?h76 ?h77 ?h78 ?h79 ?h80 ?h81 ?h82 ?h83 ?h84 ?h85 ?h86 ?h87 ?h88 ?h89 ?h90 ?h91 ?h92 ?h93 ?h94 ?h95 ?h96 ?h97 ?h98 ?h99 ?h100 ?h101 ?h102 ?h103 ?h104 ?h105 ?h106 ?h107 ?h108 ?h109 ?h110 ?h111 ?h112 ?h113 ?h114 ?h115 ?h116 ?h117 ?h118 ?h119 ?h120 ?h121 ?h122 ?h123 ?h124 ?h125 ?h126 ?h127 ?h128 ?h129 ?h130 ?h131 ?h132 ?h133 ?h134 ?h135 ?h136 ?h137 ?h138 ?h139 ?h140 ?h141 ?h142 ?h143 ?h144 ?h145 ?h146 ?h147 ?h148 ?h149 ?h150 ?h151 ?h152 ?h153 ?h154 ?h155 ?h156 ?h157 ?h158 ?h159 ?h160 ?h161 ?h162 ?h163 ?h164 ?h165 ?h166 ?h167 ?h168 ?h169 ?h170 ?h171 ?h172 ?h173 ?h174 ?h175 ?h176 ?h177 ?h178 ?h179 ?h180 ?h181 ?h182
    (case h1 => k_is); (case h2 => k_is); (case h3 => k_is); (case h4 => k_is); (case h5 => k_is); (case h6 => k_is); (case h7 => k_is); (case h8 => k_is); (case h9 => k_is); (case h10 => k_is); (case h11 => k_is); (case h12 => k_is); (case h13 => k_is); (case h14 => k_is); (case h15 => k_is); (case h16 => k_is); (case h17 => k_is); (case h18 => k_is); (case h19 => k_is); (case h20 => k_is); (case h21 => k_is); (case h22 => k_is); (case h23 => k_is); (case h24 => k_is); (case h25 => k_is); (case h26 => k_is); (case h27 => first | rfl | k_is); (case h28 => k_is); (case h29 => k_is); (case h30 => k_is); (case h31 => k_is); (case h32 => k_is); (case h33 => k_is); (case h34 => k_is); (case h35 => k_is); (case h36 => k_is); (case h37 => k_is); (case h38 => k_is); (case h39 => k_is); (case h40 => k_is); (case h41 => k_is); (case h42 => k_is); (case h43 => k_is); (case h44 => k_is); (case h45 => k_is); (case h46 => k_is); (case h47 => k_is); (case h48 => k_is); (case h49 => k_is); (case h50 => k_is); (case h51 => k_is); (case h52 => k_is); (case h53 => k_is); (case h54 => k_is); (case h55 => k_is); (case h56 => k_is); (case h57 => k_is); (case h58 => k_is); (case h59 => k_is); (case h60 => k_is); (case h61 => k_is); (case h62 => k_is); (case h63 => k_is); (case h64 => k_is); (case h65 => k_is); (case h66 => k_is); (case h67 => k_is); (case h68 => k_is); (case h69 => k_is); (case h70 => k_is); (case h71 => k_is); (case h72 => k_is); (case h73 => k_is); (case h74 => k_is); (case h75 => k_is); (case h76 => k_is); (case h77 => k_is); (case h78 => k_is); (case h79 => k_is); (case h80 => k_is); (case h81 => k_is); (case h82 => k_is); (case h83 => k_is); (case h84 => k_is); (case h85 => k_is); (case h86 => k_is); (case h87 => k_is); (case h88 => k_is); (case h89 => k_is); (case h90 => k_is); (case h91 => k_is); (case h92 => k_is); (case h93 => k_is); (case h94 => k_is); (case h95 => k_is); (case h96 => k_is); (case h97 => k_is); (case h98 => k_is); (case h99 => k_is); (case h100 => k_is); (case h101 => k_is); (case h102 => k_is); (case h103 => k_is); (case h104 => k_is); (case h105 => k_is); (case h106 => k_is); (case h107 => k_is); (case h108 => k_is); (case h109 => k_is); (case h110 => k_is); (case h111 => k_is); (case h112 => k_is); (case h113 => k_is); (case h114 => k_is); (case h115 => k_is); (case h116 => k_is); (case h117 => k_is); (case h118 => k_is); (case h119 => k_is); (case h120 => k_is); (case h121 => k_is); (case h122 => k_is); (case h123 => k_is); (case h124 => k_is); (case h125 => k_is); (case h126 => k_is); (case h127 => k_is); (case h128 => k_is); (case h129 => k_is); (case h130 => k_is); (case h131 => k_is); (case h132 => k_is); (case h133 => k_is); (case h134 => k_is); (case h135 => k_is); (case h136 => k_is); (case h137 => k_is); (case h138 => k_is); (case h139 => k_is); (case h140 => k_is); (case h141 => k_is); (case h142 => k_is); (case h143 => k_is); (case h144 => k_is); (case h145 => k_is); (case h146 => k_is); (case h147 => k_is); (case h148 => k_is); (case h149 => k_is); (case h150 => k_is); (case h151 => k_is); (case h152 => k_is); (case h153 => k_is); (case h154 => k_is); (case h155 => k_is); (case h156 => k_is); (case h157 => k_is); (case h158 => k_is); (case h159 => k_is); (case h160 => k_is); (case h161 => k_is); (case h162 => k_is); (case h163 => k_is); (case h164 => k_is); (case h165 => k_is); (case h166 => k_is); (case h167 => k_is); (case h168 => k_is); (case h169 => k_is); (case h170 => k_is); (case h171 => k_is); (case h172 => k_is); (case h173 => k_is); (case h174 => k_is); (case h175 => k_is); (case h176 => k_is); (case h177 => k_is); (case h178 => k_is); (case h179 => k_is); (case h180 => first | k_is | (repeat (first | exact trivial | refine ⟨⟨_, _, rfl, rfl⟩, ?_⟩))); (case h181 => first | decide | k_is); (case h182 => first | rfl | k_is)
